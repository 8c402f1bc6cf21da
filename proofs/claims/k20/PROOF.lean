import PyProof.Rows.All
import Wide.All
import OpenK.AllK
import Wide.FinOn
import HandS.ForMost
import HandS.ForExc
import HandS.CallSlots
import HandS.Codes
import HandS.TupAny
import HandS.IsInst
import HandS.Style
import KE.DataEq
import HandS.More
import HandS.TupLen
import HandS.Text
import HandS.Rev
import HandS.Ends
import HandS.MapObj
import HandS.RevTup
import HandS.StrMore
import KE.GoesMore
import HandS.Zip
import HandS.Strs
import HandS.RaiseMore
import HandS.SetFor
import HandS.ClsMeth
import HandS.IterVal
import HandS.OwnIter
import HandS.ExcInit
import KE.KExcSuper
import HandS.ExcField
import HandS.ExcIs
import KE.KExcIs
import PyProof.ReprRoads
import HandS.Dict
import HandS.HeadHook1
import HandS.HeadHook2
import HandS.Defaults
import HandS.Head0
import HandS.Head1
import HandS.Head2
import HandS.HeadEnd
import HandS.HeadHook3
import HandS.HeadNt
import KE.KEqDeep
import PyProof.StrLawsIn
import PySem.Challenge.RW_wordmint_k20_text_refusals
import PyProof.StrLawsRepr
set_option Elab.async false
set_option linter.all false
set_option maxRecDepth 100000
set_option maxHeartbeats 2000000
namespace Sh
open PySem L2

/-- what is asked of a class whose instances stand in the abstract heap -/
structure ClsX (K : PySem.W.Frag) (C : Addr) : Prop where
  ns : PySem.W.noSeq K C = true
  gi : ∀ f, PySem.W.findIn K (.ref C) "__getitem__" = some (some (.ref f)) → PySem.W.fnIn K f = true
  ii : C8.InsC K C
/-! ### values, objects, results -/
inductive AV where
  | non | bl (b : Bool) | int (i : Int) | str (x : Str) | ty (n : String) | cls (c : Str) | ref (n : Nat) | fl (xs : List AV) | tup (xs : List AV) | gd (n : Str) (kvs : List (Key × AV))
inductive AO where
  | lst (xs : List AV)
  | dct (kvs : List (Key × AV))
  | ins (c : Str) (fs : List (Str × AV))
abbrev AH := List AO
abbrev LSt := List (Option AV)
inductive Res (α : Type) where
  | ok (a : α) (A : AH)
  | exc (c : Str) (fs : List (Str × AV)) (A : AH)
  | bad
def Res.bind {α β : Type} (r : Res α) (k : α → AH → Res β) : Res β :=
  match r with
  | .ok a A => k a A
  | .exc c fs A => .exc c fs A
  | .bad => .bad
inductive SRes where
  | nx (ℓ : LSt) (A : AH) | rt (v : AV) (A : AH) | bk (ℓ : LSt) (A : AH) | ct (ℓ : LSt) (A : AH)
  | exc (c : Str) (fs : List (Str × AV)) (ℓ : LSt) (A : AH)
  | bad
abbrev EF := LSt → AH → Res AV
abbrev TF := LSt → AH → Res Bool
abbrev AF := LSt → AH → Res (List AV)
abbrev SF := LSt → AH → SRes
abbrev Fn := List AV → AH → Res AV
def Res.toS {α : Type} (r : Res α) (ℓ : LSt) (k : α → AH → SRes) : SRes :=
  match r with
  | .ok a A => k a A
  | .exc c fs A => .exc c fs ℓ A
  | .bad => .bad

/-! ### relations -/
structure UpK (K : PySem.W.Frag) (ι ι' : List Addr) (H H' : Hp) : Prop where
  pre : ∃ τ, ι' = ι ++ τ ∧ ∀ b ∈ τ, H b = none
  tup : ∀ p xs, SqT K H p xs → SqT K H' p xs
  frz : ∀ p ob u, H p = some (.frz ob u) → H' p = some (.frz ob u)
  xd : ∀ p fs, H p = some (.xd fs) → H' p = some (.xd fs)
  oth : ∀ p o, H p = some o → p ∉ ι → H' p = some o
  there : ∀ p, H' p = none → H p = none
structure Rc where
  K : PySem.W.Frag
  w : World
  cl : Str → Option Addr
  gdA : Str → Option Addr
  gdT : Str → Option (List (Key × AV))
  xs : Option (Nat × V)
  J : List Addr → Hp → Prop
  Jst : ∀ ι τ H H', (∀ p xs, SqT K H p xs → SqT K H' p xs) → (∀ p ob u, H p = some (.frz ob u) → H' p = some (.frz ob u)) → (∀ p fs, H p = some (.xd fs) → H' p = some (.xd fs)) → J ι H → J (ι ++ τ) H'
/-- a list of the written part -/
theorem Rc.Jup (R : Rc) (ι ι' : List Addr) (H H' : Hp) (u : UpK R.K ι ι' H H') (h : R.J ι H) : R.J ι' H' := by
  obtain ⟨τ, e, _⟩ := u.pre
  rw [e]
  exact R.Jst ι τ H H' u.tup u.frz u.xd h
theorem Rc.Jkp (R : Rc) {ι : List Addr} {H H' : Hp} (t : ∀ p xs, SqT R.K H p xs → SqT R.K H' p xs) (f : ∀ p ob u, H p = some (.frz ob u) → H' p = some (.frz ob u)) (x : ∀ p fs, H p = some (.xd fs) → H' p = some (.xd fs)) (h : R.J ι H) : R.J ι H' := by
  have := R.Jst ι [] H H' t f x h
  rw [List.append_nil] at this
  exact this
theorem Rc.Jpre (R : Rc) (ι τ : List Addr) (H : Hp) (h : R.J ι H) : R.J (ι ++ τ) H := R.Jst ι τ H H (fun _ _ z => z) (fun _ _ _ z => z) (fun _ _ z => z) h
def KLst (K : PySem.W.Frag) (a : Addr) (xs : List V) : Prop := ∃ (o : Obj) (its : Array Value) (n : Nat), K.lookup a = some o ∧ o.cls = .type "list" ∧ o.dict = none ∧ o.data = .seq its n ∧ its.size ≤ sizeLine ∧ Vals xs its.toList
/-- a list that is only read -/
def FzL (K : PySem.W.Frag) (H : Hp) (a : Addr) (xs : List V) : Prop := (∃ ob, H a = some (.frz ob (.lst xs))) ∨ KLst K a xs
mutual
def VR (R : Rc) (ι : List Addr) (H : Hp) : AV → V → Prop
  | .non, x => x = .non
  | .bl b, x => x = .bl b
  | .int i, x => x = .int i
  | .str s, x => x = .str s
  | .ty n, x => x = .ty n
  | .cls c, x => ∃ a, R.cl c = some a ∧ ClsX R.K a ∧ x = .ref a
  | .ref n, x => ∃ a, ι[n]? = some a ∧ x = .ref a
  | .fl xs, x => ∃ p vs, x = .ref p ∧ FzL R.K H p vs ∧ VRs R ι H xs vs
  | .tup xs, x => ∃ p vs, x = .ref p ∧ SqT R.K H p vs ∧ VRs R ι H xs vs
  | .gd n kvs, x => ∃ a, R.gdA n = some a ∧ R.gdT n = some kvs ∧ x = .ref a
def VRs (R : Rc) (ι : List Addr) (H : Hp) : List AV → List V → Prop
  | [], vs => vs = []
  | a :: as, vs => ∃ v r, vs = v :: r ∧ VR R ι H a v ∧ VRs R ι H as r
end
/-- fields: the same names, related values -/
def FR (R : Rc) (ι : List Addr) (H : Hp) : List (Str × AV) → List (Str × V) → Prop
  | [], gs => gs = []
  | (f, a) :: fs, gs => ∃ v r, gs = (f, v) :: r ∧ VR R ι H a v ∧ FR R ι H fs r
def KR (R : Rc) (ι : List Addr) (H : Hp) : List (Key × AV) → List (Key × V) → Prop
  | [], gs => gs = []
  | (f, a) :: fs, gs => ∃ v r, gs = (f, v) :: r ∧ VR R ι H a v ∧ KR R ι H fs r
def OR (R : Rc) (ι : List Addr) (H : Hp) (a : Addr) : AO → Prop
  | .lst xs => ∃ vs, H a = some (.lst vs) ∧ VRs R ι H xs vs
  | .dct kvs => ∃ kvs', H a = some (.dK kvs') ∧ KR R ι H kvs kvs'
  | .ins c fs => ∃ C dx fs', R.cl c = some C ∧ H a = some (.ins C dx fs') ∧ FR R ι H fs fs'
structure Emb (R : Rc) (ι : List Addr) (A : AH) (H : Hp) : Prop where
  len : ι.length = A.length
  nd : ι.Nodup
  obj : ∀ (n : Nat) (o : AO) (a : Addr), A[n]? = some o → ι[n]? = some a → OR R ι H a o
  inv : R.J ι H
abbrev Up (R : Rc) (ι ι' : List Addr) (H H' : Hp) : Prop := UpK R.K ι ι' H H'
def LR (R : Rc) (ι : List Addr) (H : Hp) (ℓ : LSt) (σ : St) : Prop :=
  ℓ.length = σ.length ∧ (∀ (i : Nat) (v : AV), ℓ[i]? = some (some v) → ∃ x, σ[i]? = some (some x) ∧ VR R ι H v x) ∧ ∀ i x, R.xs = some (i, x) → σ[i]? = some (some x)

section
variable {R : Rc} {ι ι' ι2 : List Addr} {H H' H2 : Hp}
theorem Up.refl (R : Rc) (ι : List Addr) (H : Hp) : Up R ι ι H H := ⟨⟨[], by simp⟩, fun _ _ h => h, fun _ _ _ h => h, fun _ _ h => h, fun _ _ h _ => h, fun _ h => h⟩
theorem Up.trans (a : Up R ι ι' H H') (b : Up R ι' ι2 H' H2) : Up R ι ι2 H H2 := by
  obtain ⟨τ, e, f⟩ := a.pre
  obtain ⟨τ', e', f'⟩ := b.pre
  refine ⟨⟨τ ++ τ', by rw [e', e, List.append_assoc], fun b hb => ?_⟩, fun p xs h => b.tup p xs (a.tup p xs h), fun p ob u h => b.frz p ob u (a.frz p ob u h), fun p fs h => b.xd p fs (a.xd p fs h), fun p o h n => b.oth p o (a.oth p o h n) fun hm => ?_, fun p h => a.there p (b.there p h)⟩
  · rcases List.mem_append.mp hb with z | z
    · exact f b z
    · exact a.there b (f' b z)
  · rw [e] at hm
    rcases List.mem_append.mp hm with z | z
    · exact n z
    · rw [f p z] at h
      cases h
theorem Up.at (u : Up R ι ι' H H') {n : Nat} {a : Addr} (h : ι[n]? = some a) : ι'[n]? = some a := by
  obtain ⟨τ, e, _⟩ := u.pre
  rw [e, List.getElem?_append_left (List.getElem?_eq_some_iff.mp h).1]
  exact h
theorem FzL.up {a : Addr} {xs : List V} (u : Up R ι ι' H H') (h : FzL R.K H a xs) : FzL R.K H' a xs := by
  rcases h with ⟨ob, h⟩ | h
  · exact .inl ⟨ob, u.frz _ _ _ h⟩
  · exact .inr h
theorem FzL.sq {K : PySem.W.Frag} {a : Addr} {xs : List V} (h : FzL K H a xs) : SqL K H a xs := by
  rcases h with ⟨ob, h⟩ | h
  · exact .inl (.inr ⟨ob, h⟩)
  · exact .inr h
mutual
theorem VR.up (u : Up R ι ι' H H') : ∀ {a : AV} {x : V}, VR R ι H a x → VR R ι' H' a x
  | .non, _, h => by unfold VR at h ⊢; exact h
  | .bl _, _, h => by unfold VR at h ⊢; exact h
  | .int _, _, h => by unfold VR at h ⊢; exact h
  | .str _, _, h => by unfold VR at h ⊢; exact h
  | .ty _, _, h => by unfold VR at h ⊢; exact h
  | .cls _, _, h => by unfold VR at h ⊢; exact h
  | .ref n, _, h => by
    unfold VR at h ⊢
    obtain ⟨a, e, q⟩ := h
    exact ⟨a, u.at e, q⟩
  | .tup xs, _, h => by
    unfold VR at h ⊢
    obtain ⟨p, vs, e, q, r⟩ := h
    exact ⟨p, vs, e, u.tup _ _ q, VRs.up u r⟩
  | .fl xs, _, h => by
    unfold VR at h ⊢
    obtain ⟨p, vs, e, q, r⟩ := h
    exact ⟨p, vs, e, q.up u, VRs.up u r⟩
  | .gd _ _, _, h => by unfold VR at h ⊢; exact h
theorem VRs.up (u : Up R ι ι' H H') : ∀ {as : List AV} {xs : List V}, VRs R ι H as xs → VRs R ι' H' as xs
  | [], _, h => by unfold VRs at h ⊢; exact h
  | a :: as, _, h => by
    unfold VRs at h ⊢
    obtain ⟨v, r, e, q, t⟩ := h
    exact ⟨v, r, e, VR.up u q, VRs.up u t⟩
end
theorem FR.up (u : Up R ι ι' H H') : ∀ {as : List (Str × AV)} {xs : List (Str × V)}, FR R ι H as xs → FR R ι' H' as xs
  | [], _, h => by unfold FR at h ⊢; exact h
  | (f, a) :: as, _, h => by
    unfold FR at h ⊢
    obtain ⟨v, r, e, q, t⟩ := h
    exact ⟨v, r, e, VR.up u q, FR.up u t⟩
theorem KR.up (u : Up R ι ι' H H') : ∀ {as : List (Key × AV)} {xs : List (Key × V)}, KR R ι H as xs → KR R ι' H' as xs
  | [], _, h => by unfold KR at h ⊢; exact h
  | (f, a) :: as, _, h => by
    unfold KR at h ⊢
    obtain ⟨v, r, e, q, t⟩ := h
    exact ⟨v, r, e, VR.up u q, KR.up u t⟩
theorem LR.up {ℓ : LSt} {σ : St} (u : Up R ι ι' H H') (h : LR R ι H ℓ σ) : LR R ι' H' ℓ σ :=
  ⟨h.1, fun i v e => let ⟨x, q, r⟩ := h.2.1 i v e; ⟨x, q, r.up u⟩, h.2.2⟩
theorem LR.set {ℓ : LSt} {σ : St} {i : Nat} {v : AV} {x : V} (h : LR R ι H ℓ σ) (r : VR R ι H v x) (hx : ∀ y, R.xs ≠ some (i, y)) : LR R ι H (ℓ.set i (some v)) (σ.set i (some x)) := by
  refine ⟨by rw [List.length_set, List.length_set]; exact h.1, fun j w e => ?_, fun j y e => ?_⟩
  · by_cases hj : i = j
    · subst hj
      by_cases hl : i < ℓ.length
      · rw [List.getElem?_set_self hl] at e
        cases e
        exact ⟨x, by rw [List.getElem?_set_self (by rw [← h.1]; exact hl)], r⟩
      · rw [List.getElem?_eq_none (by rw [List.length_set]; omega)] at e
        cases e
    · rw [List.getElem?_set_ne hj] at e
      rw [List.getElem?_set_ne hj]
      exact h.2.1 j w e
  · have hj : i ≠ j := fun z => by subst z; exact hx y e
    rw [List.getElem?_set_ne hj]
    exact h.2.2 j y e
theorem VRs.length : ∀ {as : List AV} {xs : List V}, VRs R ι H as xs → as.length = xs.length
  | [], _, h => by unfold VRs at h; subst h; rfl
  | a :: as, _, h => by
    unfold VRs at h
    obtain ⟨v, r, e, q, t⟩ := h
    subst e
    rw [List.length_cons, List.length_cons, VRs.length t]
theorem VRs.append : ∀ {as bs : List AV} {xs ys : List V}, VRs R ι H as xs → VRs R ι H bs ys → VRs R ι H (as ++ bs) (xs ++ ys)
  | [], _, _, _, h, k => by unfold VRs at h; subst h; exact k
  | a :: as, _, _, _, h, k => by
    unfold VRs at h
    obtain ⟨v, r, e, q, t⟩ := h
    subst e
    show VRs R ι H (a :: (as ++ _)) (v :: (r ++ _))
    unfold VRs
    exact ⟨v, _, rfl, q, VRs.append t k⟩
theorem VRs.get : ∀ {as : List AV} {xs : List V} {n : Nat} {a : AV}, VRs R ι H as xs → as[n]? = some a → ∃ x, xs[n]? = some x ∧ VR R ι H a x
  | [], _, _, _, _, e => by simp at e
  | b :: as, _, 0, a, h, e => by
    unfold VRs at h
    obtain ⟨v, r, e', q, t⟩ := h
    subst e'
    simp at e
    subst e
    exact ⟨v, rfl, q⟩
  | b :: as, _, n + 1, a, h, e => by
    unfold VRs at h
    obtain ⟨v, r, e', q, t⟩ := h
    subst e'
    obtain ⟨x, e2, q2⟩ := VRs.get (n := n) t (by simpa using e)
    exact ⟨x, by simpa using e2, q2⟩
theorem VRs.take : ∀ {as : List AV} {xs : List V} (n : Nat), VRs R ι H as xs → VRs R ι H (as.take n) (xs.take n)
  | [], _, _, h => by unfold VRs at h; subst h; simp; unfold VRs; rfl
  | _ :: _, _, 0, _ => by simp; unfold VRs; rfl
  | a :: as, _, n + 1, h => by
    unfold VRs at h
    obtain ⟨v, r, e, q, t⟩ := h
    subst e
    rw [List.take_succ_cons, List.take_succ_cons]
    unfold VRs
    exact ⟨v, _, rfl, q, VRs.take n t⟩
theorem VRs.drop : ∀ {as : List AV} {xs : List V} (n : Nat), VRs R ι H as xs → VRs R ι H (as.drop n) (xs.drop n)
  | [], _, _, h => by unfold VRs at h; subst h; simp; unfold VRs; rfl
  | _ :: _, _, 0, h => h
  | a :: as, _, n + 1, h => by
    unfold VRs at h
    obtain ⟨v, r, e, q, t⟩ := h
    subst e
    rw [List.drop_succ_cons, List.drop_succ_cons]
    exact VRs.drop n t
theorem VRs.set : ∀ {as : List AV} {xs : List V} {a : AV} {x : V} (n : Nat), VRs R ι H as xs → VR R ι H a x → VRs R ι H (as.set n a) (xs.set n x)
  | [], _, _, _, _, h, _ => by unfold VRs at h; subst h; simp; unfold VRs; rfl
  | b :: as, _, _, _, 0, h, k => by
    unfold VRs at h
    obtain ⟨v, r, e, q, t⟩ := h
    subst e
    rw [List.set_cons_zero, List.set_cons_zero]
    unfold VRs
    exact ⟨_, _, rfl, k, t⟩
  | b :: as, _, _, _, n + 1, h, k => by
    unfold VRs at h
    obtain ⟨v, r, e, q, t⟩ := h
    subst e
    rw [List.set_cons_succ, List.set_cons_succ]
    unfold VRs
    exact ⟨_, _, rfl, q, VRs.set n t k⟩

theorem nodup_at {N : List Addr} (hN : N.Nodup) {i j : Nat} {x : Addr} (a : N[i]? = some x) (b : N[j]? = some x) : i = j := by
  obtain ⟨h1, e1⟩ := List.getElem?_eq_some_iff.mp a
  obtain ⟨h2, e2⟩ := List.getElem?_eq_some_iff.mp b
  exact (List.getElem_inj hN).mp (e1.trans e2.symm)
/-! ### new objects, changed objects -/
theorem SqT.new {K : PySem.W.Frag} {H : Hp} {p q : Addr} {o : HO} {xs : List V} (hp : H p = none) (h : SqT K H q xs) : SqT K (upd H p o) q xs := by
  rcases h with (h | ⟨ob, h⟩) | h
  · exact .inl (.inl (by rw [upd_ne (ne_of_none h hp)]; exact h))
  · exact .inl (.inr ⟨ob, by rw [upd_ne (ne_of_none h hp)]; exact h⟩)
  · exact .inr h
theorem SqL.new {K : PySem.W.Frag} {H : Hp} {p q : Addr} {o : HO} {xs : List V} (hp : H p = none) (h : SqL K H q xs) : SqL K (upd H p o) q xs := by
  rcases h with (h | ⟨ob, h⟩) | h
  · exact .inl (.inl (by rw [upd_ne (ne_of_none h hp)]; exact h))
  · exact .inl (.inr ⟨ob, by rw [upd_ne (ne_of_none h hp)]; exact h⟩)
  · exact .inr h
/-- a thing that A does not name is laid (a tuple): all is as it was -/
theorem Up.laid {p : Addr} {o : HO} (hp : H p = none) : Up R ι ι H (upd H p o) :=
  ⟨⟨[], by simp⟩, fun q xs h => SqT.new hp h, fun q ob fs h => by rw [upd_ne (ne_of_none h hp)]; exact h, fun q fs h => by rw [upd_ne (ne_of_none h hp)]; exact h, fun q u h _ => by rw [upd_ne (ne_of_none h hp)]; exact h, fun q h => by
    by_cases e : q = p
    · subst e; exact hp
    · rw [upd_ne e] at h; exact h⟩
theorem Up.grow {p : Addr} {o : HO} (hp : H p = none) : Up R ι (ι ++ [p]) H (upd H p o) :=
  ⟨⟨[p], rfl, fun b hb => by rw [List.mem_singleton.mp hb]; exact hp⟩, fun q xs h => SqT.new hp h, fun q ob fs h => by rw [upd_ne (ne_of_none h hp)]; exact h, fun q fs h => by rw [upd_ne (ne_of_none h hp)]; exact h, fun q u h _ => by rw [upd_ne (ne_of_none h hp)]; exact h, fun q h => by
    by_cases e : q = p
    · subst e; exact hp
    · rw [upd_ne e] at h; exact h⟩
theorem Up.upd {a : Addr} {o o' : HO} (ha : H a = some o) (hm : Mut (some o)) (hn : a ∈ ι) : Up R ι ι H (upd H a o') := by
  have ne : ∀ q u, H q = some u → ¬ Mut (some u) → q ≠ a := fun q u e nm z => by subst z; rw [ha] at e; cases e; exact nm hm
  refine ⟨⟨[], by simp⟩, fun q xs h => ?_, fun q ob fs h => ?_, fun q fs h => ?_, fun q u h n => ?_, fun q h => ?_⟩
  · rcases h with (h | ⟨ob, h⟩) | h
    · exact .inl (.inl (by rw [upd_ne (ne _ _ h fun z => z)]; exact h))
    · exact .inl (.inr ⟨ob, by rw [upd_ne (ne _ _ h fun z => z)]; exact h⟩)
    · exact .inr h
  · rw [upd_ne (ne _ _ h fun z => z)]
    exact h
  · rw [upd_ne (ne _ _ h fun z => z)]
    exact h
  · rw [upd_ne (fun (z : q = a) => n (by rw [z]; exact hn))]
    exact h
  · by_cases e : q = a
    · subst e
      rw [upd_same] at h
      cases h
    · rw [upd_ne e] at h
      exact h
/-- what is tracked of it -/
theorem OR.ho {a : Addr} {o : AO} (h : OR R ι H a o) : ∃ u, H a = some u ∧ Mut (some u) := by
  cases o with
  | lst xs => obtain ⟨vs, e, _⟩ := h; exact ⟨_, e, True.intro⟩
  | dct kvs => obtain ⟨vs, e, _⟩ := h; exact ⟨_, e, True.intro⟩
  | ins c fs => obtain ⟨_, _, _, _, e, _⟩ := h; exact ⟨_, e, True.intro⟩
/-- an object that did not change -/
theorem OR.up {a : Addr} {o : AO} (u : Up R ι ι' H H') (k : ∀ w, H a = some w → H' a = some w) (h : OR R ι H a o) : OR R ι' H' a o := by
  cases o with
  | lst xs => obtain ⟨vs, e, r⟩ := h; exact ⟨vs, k _ e, r.up u⟩
  | dct kvs => obtain ⟨vs, e, r⟩ := h; exact ⟨vs, k _ e, r.up u⟩
  | ins c fs => obtain ⟨C, dx, fs', e1, e, r⟩ := h; exact ⟨C, dx, fs', e1, k _ e, r.up u⟩
mutual
theorem VR.pre {ι' : List Addr} (z : ∃ τ, ι' = ι ++ τ) : ∀ {a : AV} {x : V}, VR R ι H a x → VR R ι' H a x
  | .non, _, h => by unfold VR at h ⊢; exact h
  | .bl _, _, h => by unfold VR at h ⊢; exact h
  | .int _, _, h => by unfold VR at h ⊢; exact h
  | .str _, _, h => by unfold VR at h ⊢; exact h
  | .ty _, _, h => by unfold VR at h ⊢; exact h
  | .cls _, _, h => by unfold VR at h ⊢; exact h
  | .ref n, _, h => by
    unfold VR at h ⊢
    obtain ⟨a, e, q⟩ := h
    obtain ⟨τ, e'⟩ := z
    exact ⟨a, by rw [e', List.getElem?_append_left (List.getElem?_eq_some_iff.mp e).1]; exact e, q⟩
  | .tup xs, _, h => by
    unfold VR at h ⊢
    obtain ⟨p, vs, e, q, r⟩ := h
    exact ⟨p, vs, e, q, VRs.pre z r⟩
  | .fl xs, _, h => by
    unfold VR at h ⊢
    obtain ⟨p, vs, e, q, r⟩ := h
    exact ⟨p, vs, e, q, VRs.pre z r⟩
  | .gd _ _, _, h => by unfold VR at h ⊢; exact h
theorem VRs.pre {ι' : List Addr} (z : ∃ τ, ι' = ι ++ τ) : ∀ {as : List AV} {xs : List V}, VRs R ι H as xs → VRs R ι' H as xs
  | [], _, h => by unfold VRs at h ⊢; exact h
  | a :: as, _, h => by
    unfold VRs at h ⊢
    obtain ⟨v, r, e, q, t⟩ := h
    exact ⟨v, r, e, VR.pre z q, VRs.pre z t⟩
end
theorem FR.pre {ι' : List Addr} (z : ∃ τ, ι' = ι ++ τ) : ∀ {as : List (Str × AV)} {xs : List (Str × V)}, FR R ι H as xs → FR R ι' H as xs
  | [], _, h => by unfold FR at h ⊢; exact h
  | (f, a) :: as, _, h => by
    unfold FR at h ⊢
    obtain ⟨v, r, e, q, t⟩ := h
    exact ⟨v, r, e, VR.pre z q, FR.pre z t⟩
theorem KR.pre {ι' : List Addr} (z : ∃ τ, ι' = ι ++ τ) : ∀ {as : List (Key × AV)} {xs : List (Key × V)}, KR R ι H as xs → KR R ι' H as xs
  | [], _, h => by unfold KR at h ⊢; exact h
  | (f, a) :: as, _, h => by
    unfold KR at h ⊢
    obtain ⟨v, r, e, q, t⟩ := h
    exact ⟨v, r, e, VR.pre z q, KR.pre z t⟩
theorem OR.pre {ι' : List Addr} {a : Addr} {o : AO} (z : ∃ τ, ι' = ι ++ τ) (h : OR R ι H a o) : OR R ι' H a o := by
  cases o with
  | lst xs => obtain ⟨vs, e, r⟩ := h; exact ⟨vs, e, r.pre z⟩
  | dct kvs => obtain ⟨vs, e, r⟩ := h; exact ⟨vs, e, r.pre z⟩
  | ins c fs => obtain ⟨C, dx, fs', e1, e, r⟩ := h; exact ⟨C, dx, fs', e1, e, r.pre z⟩
theorem Emb.there {A : AH} (m : Emb R ι A H) {n : Nat} {o : AO} (e : A[n]? = some o) : ∃ a, ι[n]? = some a ∧ OR R ι H a o := by
  have hl : n < ι.length := by rw [m.len]; exact (List.getElem?_eq_some_iff.mp e).1
  exact ⟨ι[n], by rw [List.getElem?_eq_getElem hl], m.obj n o _ e (by rw [List.getElem?_eq_getElem hl])⟩
theorem Emb.mem {A : AH} (m : Emb R ι A H) {a : Addr} (h : a ∈ ι) : ∃ u, H a = some u ∧ Mut (some u) := by
  obtain ⟨n, hn⟩ := List.getElem?_of_mem h
  have hl : n < A.length := by rw [← m.len]; exact (List.getElem?_eq_some_iff.mp hn).1
  exact (m.obj n _ a (List.getElem?_eq_getElem hl) hn).ho
theorem Emb.new {A : AH} (m : Emb R ι A H) {p : Addr} (hp : H p = none) : p ∉ ι := fun h => by
  obtain ⟨u, hu, _⟩ := m.mem h
  rw [hp] at hu
  cases hu
/-- a tuple (or anything that A does not name) is laid -/
theorem Emb.laid {A : AH} {p : Addr} {o : HO} (m : Emb R ι A H) (hp : H p = none) : Emb R ι A (upd H p o) :=
  ⟨m.len, m.nd, fun n w a e q => (m.obj n w a e q).up (Up.laid hp) fun v z => (by rw [upd_ne (ne_of_none z hp)]; exact z), R.Jup _ _ _ _ (Up.laid (R := R) hp) m.inv⟩
theorem splitA {A : AH} {w : AO} {n : Nat} {v : AO} (e : (A ++ [w])[n]? = some v) : A[n]? = some v ∨ (n = A.length ∧ v = w) := by
  by_cases hn : n < A.length
  · rw [List.getElem?_append_left hn] at e
    exact .inl e
  · have hlt := (List.getElem?_eq_some_iff.mp e).1
    rw [List.length_append, List.length_singleton] at hlt
    have hn' : n = A.length := by omega
    subst hn'
    simp at e
    exact .inr ⟨rfl, e.symm⟩
/-- an object that stood unnamed gets a name -/
theorem Emb.name {A : AH} {p : Addr} {w : AO} (m : Emb R ι A H) (hn : p ∉ ι) (hw : OR R (ι ++ [p]) H p w) : Emb R (ι ++ [p]) (A ++ [w]) H := by
  refine ⟨by rw [List.length_append, List.length_append, m.len]; rfl, ?_, fun n v a e q => ?_, R.Jpre _ _ _ m.inv⟩
  · rw [List.nodup_append]
    exact ⟨m.nd, by simp, fun a ha b hb z => hn (by rw [List.mem_singleton.mp hb] at z; rw [← z]; exact ha)⟩
  · rcases splitA e with e1 | ⟨rfl, rfl⟩
    · rw [List.getElem?_append_left (by rw [m.len]; exact (List.getElem?_eq_some_iff.mp e1).1)] at q
      exact OR.pre ⟨[p], rfl⟩ (m.obj n v a e1 q)
    · rw [← m.len] at q
      simp at q
      subst q
      exact hw
/-- a new object -/
theorem Emb.grow {A : AH} {p : Addr} {o : HO} {w : AO} (m : Emb R ι A H) (hp : H p = none) (hw : OR R (ι ++ [p]) (upd H p o) p w) : Emb R (ι ++ [p]) (A ++ [w]) (upd H p o) := (m.laid hp).name (m.new hp) hw
/-- an object is changed -/
theorem Emb.set {A : AH} {n : Nat} {a : Addr} {v w : AO} {o : HO} (m : Emb R ι A H) (e : A[n]? = some v) (ha : ι[n]? = some a) (hw : OR R ι (upd H a o) a w) : Up R ι ι H (upd H a o) ∧ Emb R ι (A.set n w) (upd H a o) := by
  obtain ⟨u, hu, mu⟩ := (m.obj n v a e ha).ho
  have U : Up R ι ι H (upd H a o) := Up.upd hu mu (List.mem_of_getElem? ha)
  have hn : n < A.length := (List.getElem?_eq_some_iff.mp e).1
  refine ⟨U, by rw [List.length_set]; exact m.len, m.nd, fun i x b q r => ?_, R.Jup _ _ _ _ U m.inv⟩
  by_cases hi : n = i
  · subst hi
    rw [List.getElem?_set_self hn] at q
    cases q
    rw [ha] at r
    cases r
    exact hw
  · rw [List.getElem?_set_ne hi] at q
    refine (m.obj i x b q r).up U fun z hz => ?_
    rw [upd_ne (fun z2 => hi (by subst z2; exact nodup_at m.nd ha r))]
    exact hz
end
end Sh

set_option Elab.async false
set_option linter.all false
set_option maxRecDepth 100000
set_option maxHeartbeats 2000000
namespace Sh
open PySem L2

/-! ### simulation -/
def XR (R : Rc) (ι : List Addr) (H : Hp) (c : Str) (fs : List (Str × AV)) (cls : Value) (d : Option Addr) : Prop :=
  ∃ C dd fs', R.cl c = some C ∧ cls = .ref C ∧ d = some dd ∧ H dd = some (.xd fs') ∧ FR R ι H fs fs'
def Then {α β : Type} (R : Rc) (rel : List Addr → Hp → α → β → Prop) (r : Res α) (ι : List Addr) (H : Hp) (Q : β → Hp → Prop) (E : XK) : Prop :=
  match r with
  | .ok a A' => ∀ ι' H' b, Up R ι ι' H H' → Emb R ι' A' H' → rel ι' H' a b → Q b H'
  | .exc c fs A' => ∀ ι' H' cls d, Up R ι ι' H H' → Emb R ι' A' H' → XR R ι' H' c fs cls d → E cls d H'
  | .bad => False
def eqR {α : Type} : List Addr → Hp → α → α → Prop := fun _ _ a b => a = b
def Sim {α β : Type} (R : Rc) (rel : List Addr → Hp → α → β → Prop) (W : WX) (t : St → Hp → (β → Hp → Prop) → Prop) (f : LSt → AH → Res α) : Prop :=
  ∀ (σ : St) (ℓ : LSt) (H : Hp) (ι : List Addr) (A : AH) (Q : β → Hp → Prop), LR R ι H ℓ σ → Emb R ι A H → Then R rel (f ℓ A) ι H Q (fun c d H' => W c d σ H') → t σ H Q
def ThenS (R : Rc) (r : SRes) (ι : List Addr) (H : Hp) (D : Ends) (W : WX) : Prop :=
  match r with
  | .nx ℓ' A' => ∀ ι' H' σ', Up R ι ι' H H' → Emb R ι' A' H' → LR R ι' H' ℓ' σ' → D.nx σ' H'
  | .rt v A' => ∀ ι' H' x, Up R ι ι' H H' → Emb R ι' A' H' → VR R ι' H' v x → D.rt x H'
  | .bk ℓ' A' => ∀ ι' H' σ', Up R ι ι' H H' → Emb R ι' A' H' → LR R ι' H' ℓ' σ' → D.bk σ' H'
  | .ct ℓ' A' => ∀ ι' H' σ', Up R ι ι' H H' → Emb R ι' A' H' → LR R ι' H' ℓ' σ' → D.ct σ' H'
  | .exc c fs ℓ' A' => ∀ ι' H' σ' cls d, Up R ι ι' H H' → Emb R ι' A' H' → LR R ι' H' ℓ' σ' → XR R ι' H' c fs cls d → W cls d σ' H'
  | .bad => False
def SimS (R : Rc) (W : WX) (t : TS) (f : SF) : Prop :=
  ∀ (D : Ends) (σ : St) (ℓ : LSt) (H : Hp) (ι : List Addr) (A : AH), LR R ι H ℓ σ → Emb R ι A H → ThenS R (f ℓ A) ι H D W → t D σ H

def SE (R : Rc) (X : Cx) (W : WX) (e : Expr) (f : EF) : Prop := ∃ t, PE X e t ∧ Sim R (VR R) W t f
def ST (R : Rc) (X : Cx) (W : WX) (e : Expr) (f : TF) : Prop := ∃ t, PT X e t ∧ Sim R eqR W t f
def SA (R : Rc) (X : Cx) (W : WX) (es : List Expr) (f : AF) : Prop := ∃ t, PA X es t ∧ Sim R (VRs R) W t f
def SS (R : Rc) (X : Cx) (W : WX) (st : Stmt) (f : SF) : Prop := ∃ t, PS X st t ∧ SimS R W t f
def SSs (R : Rc) (X : Cx) (W : WX) (st : List Stmt) (f : SF) : Prop := ∃ t, PSs X st t ∧ SimS R W t f

section
variable {R : Rc} {ι ι' : List Addr} {H H' : Hp} {E : XK} {W : WX} {α β γ δ : Type} {rel : List Addr → Hp → α → β → Prop} {rel' : List Addr → Hp → γ → δ → Prop}
theorem Then.up {r : Res α} {Q : β → Hp → Prop} (u : Up R ι ι' H H') (h : Then R rel r ι H Q E) : Then R rel r ι' H' Q E := by
  cases r with
  | ok a A => exact fun ι2 H2 b u2 m2 q => h ι2 H2 b (u.trans u2) m2 q
  | exc c fs A => exact fun ι2 H2 c d u2 m2 q => h ι2 H2 c d (u.trans u2) m2 q
  | bad => exact h
theorem ThenS.up {r : SRes} {D : Ends} (u : Up R ι ι' H H') (h : ThenS R r ι H D W) : ThenS R r ι' H' D W := by
  cases r with
  | nx ℓ A => exact fun ι2 H2 b u2 m2 q => h ι2 H2 b (u.trans u2) m2 q
  | rt ℓ A => exact fun ι2 H2 b u2 m2 q => h ι2 H2 b (u.trans u2) m2 q
  | bk ℓ A => exact fun ι2 H2 b u2 m2 q => h ι2 H2 b (u.trans u2) m2 q
  | ct ℓ A => exact fun ι2 H2 b u2 m2 q => h ι2 H2 b (u.trans u2) m2 q
  | exc c fs ℓ A => exact fun ι2 H2 σ c d u2 m2 l q => h ι2 H2 σ c d (u.trans u2) m2 l q
  | bad => exact h
theorem Then.bind {r : Res α} {k : α → AH → Res γ} {Q : δ → Hp → Prop} {P : β → Hp → Prop} (h : Then R rel' (r.bind k) ι H Q E)
    (hk : ∀ a A' ι' H' b, Up R ι ι' H H' → Emb R ι' A' H' → rel ι' H' a b → Then R rel' (k a A') ι' H' Q E → P b H') : Then R rel r ι H P E := by
  cases r with
  | ok a A => exact fun ι2 H2 b u2 m2 q => hk a A ι2 H2 b u2 m2 q (Then.up u2 h)
  | exc c fs A => exact h
  | bad => exact h
theorem ThenS.ofE {r : Res α} {ℓ : LSt} {σ : St} {k : α → AH → SRes} {D : Ends} {P : β → Hp → Prop} (L : LR R ι H ℓ σ) (h : ThenS R (r.toS ℓ k) ι H D W)
    (hk : ∀ a A' ι' H' b, Up R ι ι' H H' → Emb R ι' A' H' → rel ι' H' a b → LR R ι' H' ℓ σ → ThenS R (k a A') ι' H' D W → P b H') : Then R rel r ι H P (fun c d H' => W c d σ H') := by
  cases r with
  | ok a A => exact fun ι2 H2 b u2 m2 q => hk a A ι2 H2 b u2 m2 q (L.up u2) (ThenS.up u2 h)
  | exc c fs A => exact fun ι2 H2 cls d u2 m2 q => h ι2 H2 σ cls d u2 m2 (L.up u2) q
  | bad => exact h
/-- at an end: nothing changed -/
theorem Then.here {a : α} {A : AH} {Q : β → Hp → Prop} {b : β} (h : Then R rel (.ok a A) ι H Q E) (m : Emb R ι A H) (r : rel ι H a b) : Q b H := h ι H b (Up.refl R ι H) m r
theorem Then.tupNew {xs : List AV} {A : AH} {Q : VK} {vs : List V} (h : Then R (VR R) (.ok (.tup xs) A) ι H Q E) (m : Emb R ι A H) (r : VRs R ι H xs vs) : ∀ p, H p = none → Q (.ref p) (upd H p (.tup vs)) := fun p hp =>
  h ι _ _ (Up.laid hp) (m.laid hp) (by unfold VR; exact ⟨p, vs, rfl, SqT.of upd_same, r.up (Up.laid hp)⟩)
theorem Then.lstNew {xs : List AV} {A : AH} {Q : VK} {vs : List V} (h : Then R (VR R) (.ok (.ref A.length) (A ++ [.lst xs])) ι H Q E) (m : Emb R ι A H) (r : VRs R ι H xs vs) : ∀ p, H p = none → Q (.ref p) (upd H p (.lst vs)) := fun p hp =>
  h (ι ++ [p]) _ _ (Up.grow hp) (m.grow hp ⟨vs, upd_same, r.up (Up.grow hp)⟩) (by unfold VR; exact ⟨p, by rw [← m.len]; simp, rfl⟩)
end

/-! ### expressions: functions -/
def eC (v : AV) : EF := fun _ A => .ok v A
def eVar (i : Nat) : EF := fun ℓ A => match ℓ[i]? with | some (some v) => .ok v A | _ => .bad
def eOp (g : AV → AV → AH → Res AV) (f1 f2 : EF) : EF := fun ℓ A => (f1 ℓ A).bind fun a A => (f2 ℓ A).bind fun b A => g a b A
def eUn (g : AV → AH → Res AV) (f1 : EF) : EF := fun ℓ A => (f1 ℓ A).bind fun a A => g a A
def aNil : AF := fun _ A => .ok [] A
def aCons (f : EF) (r : AF) : AF := fun ℓ A => (f ℓ A).bind fun a A => (r ℓ A).bind fun as A => .ok (a :: as) A
def eTup (f : AF) : EF := fun ℓ A => (f ℓ A).bind fun as A => if as.length ≤ sizeLine then .ok (.tup as) A else .bad
def eLst (f : AF) : EF := fun ℓ A => (f ℓ A).bind fun as A => if as.length ≤ sizeLine then .ok (.ref A.length) (A ++ [.lst as]) else .bad
def eIf (t : TF) (f g : EF) : EF := fun ℓ A => (t ℓ A).bind fun b A => if b then f ℓ A else g ℓ A
def tNotF (t : TF) : TF := fun ℓ A => (t ℓ A).bind fun b A => .ok (!b) A
def tAndF (t u : TF) : TF := fun ℓ A => (t ℓ A).bind fun b A => if b then u ℓ A else .ok false A
def tOrF (t u : TF) : TF := fun ℓ A => (t ℓ A).bind fun b A => if b then .ok true A else u ℓ A
def asBl (a : AV) (A : AH) : Res Bool := match a with | .bl b => .ok b A | _ => .bad
def tOfE (f : EF) : TF := fun ℓ A => (f ℓ A).bind asBl
def eAndF (f g : EF) : EF := fun ℓ A => (f ℓ A).bind fun a A => match a with | .bl b => if b then g ℓ A else .ok (.bl false) A | _ => .bad
def eOrF (f g : EF) : EF := fun ℓ A => (f ℓ A).bind fun a A => match a with | .bl b => if b then .ok (.bl true) A else g ℓ A | _ => .bad
def eNotF (f : EF) : EF := fun ℓ A => (f ℓ A).bind fun a A => match a with | .bl b => .ok (.bl (!b)) A | _ => .bad

/-- an operation's simulation -/
def SimO (R : Rc) (r : R2) (g : AV → AV → AH → Res AV) : Prop :=
  ∀ a b x y H ι A Q E, Emb R ι A H → VR R ι H a x → VR R ι H b y → Then R (VR R) (g a b A) ι H Q E → r x y H Q
def SimU (R : Rc) (r : V → Hp → VK → Prop) (g : AV → AH → Res AV) : Prop :=
  ∀ a x H ι A Q E, Emb R ι A H → VR R ι H a x → Then R (VR R) (g a A) ι H Q E → r x H Q
def SimC (R : Rc) (r : List V → Hp → VK → Prop) (g : List AV → AH → Res AV) : Prop :=
  ∀ as xs H ι A Q E, Emb R ι A H → VRs R ι H as xs → Then R (VR R) (g as A) ι H Q E → r xs H Q

section
variable {R : Rc} {X : Cx} {W : WX} {a b c : Expr} {es : List Expr} {fa fb fc : EF} {ta tb tc : TE} {pos : Pos}
theorem sim_c {v : AV} {x : V} (h : ∀ ι H, VR R ι H v x) : Sim R (VR R) W (tC x) (eC v) := fun σ ℓ H ι A Q L M q => q.here M (h ι H)
theorem sim_var {i : Nat} : Sim R (VR R) W (tVar i) (eVar i) := fun σ ℓ H ι A Q L M q => by
  unfold eVar at q
  split at q
  · rename_i v e
    obtain ⟨x, h1, h2⟩ := L.2.1 i v e
    exact ⟨x, h1, q.here M h2⟩
  · exact False.elim q
theorem sim_op {r : R2} {g : AV → AV → AH → Res AV} (ha : Sim R (VR R) W ta fa) (hb : Sim R (VR R) W tb fb) (hr : SimO R r g) : Sim R (VR R) W (tOp r ta tb) (eOp g fa fb) := fun σ ℓ H ι A Q L M q =>
  ha σ ℓ H ι A _ L M (q.bind fun a1 A1 ι1 H1 x U1 M1 v1 q1 => hb σ ℓ H1 ι1 A1 _ (L.up U1) M1 (q1.bind fun a2 A2 ι2 H2 y U2 M2 v2 q2 => hr _ _ _ _ _ _ _ _ _ M2 (v1.up U2) v2 q2))
theorem sim_un {r : V → Hp → VK → Prop} {g : AV → AH → Res AV} (ha : Sim R (VR R) W ta fa) (hr : SimU R r g) : Sim R (VR R) W (tUn r ta) (eUn g fa) := fun σ ℓ H ι A Q L M q =>
  ha σ ℓ H ι A _ L M (q.bind fun a1 A1 ι1 H1 x U1 M1 v1 q1 => hr _ _ _ _ _ _ _ M1 v1 q1)
theorem sim_nil : Sim R (VRs R) W tNil aNil := fun σ ℓ H ι A Q L M q => q.here M (by unfold VRs; rfl)
theorem sim_cons {t : TA} {f : AF} (ha : Sim R (VR R) W ta fa) (hr : Sim R (VRs R) W t f) : Sim R (VRs R) W (tCons ta t) (aCons fa f) := fun σ ℓ H ι A Q L M q =>
  ha σ ℓ H ι A _ L M (q.bind fun a1 A1 ι1 H1 x U1 M1 v1 q1 => hr σ ℓ H1 ι1 A1 _ (L.up U1) M1 (q1.bind fun a2 A2 ι2 H2 y U2 M2 v2 q2 => q2.here M2 (by unfold VRs; exact ⟨x, y, rfl, v1.up U2, v2⟩)))
theorem sim_tup {t : TA} {f : AF} (h : Sim R (VRs R) W t f) : Sim R (VR R) W (tTup t) (eTup f) := fun σ ℓ H ι A Q L M q =>
  h σ ℓ H ι A _ L M (q.bind fun as A1 ι1 H1 xs U1 M1 v1 q1 => by
    by_cases hl : as.length ≤ sizeLine
    · rw [if_pos hl] at q1
      exact ⟨by rw [← v1.length]; exact hl, q1.tupNew M1 v1⟩
    · rw [if_neg hl] at q1
      exact False.elim q1)
theorem sim_lst {t : TA} {f : AF} (h : Sim R (VRs R) W t f) : Sim R (VR R) W (tLst t) (eLst f) := fun σ ℓ H ι A Q L M q =>
  h σ ℓ H ι A _ L M (q.bind fun as A1 ι1 H1 xs U1 M1 v1 q1 => by
    by_cases hl : as.length ≤ sizeLine
    · rw [if_pos hl] at q1
      exact ⟨by rw [← v1.length]; exact hl, q1.lstNew M1 v1⟩
    · rw [if_neg hl] at q1
      exact False.elim q1)
theorem sim_if {t : TT} {ft : TF} (ht : Sim R eqR W t ft) (ha : Sim R (VR R) W ta fa) (hb : Sim R (VR R) W tb fb) : Sim R (VR R) W (tIf t ta tb) (eIf ft fa fb) := fun σ ℓ H ι A Q L M q =>
  ht σ ℓ H ι A _ L M (q.bind fun k A1 ι1 H1 x U1 M1 v1 q1 => by
    cases v1
    cases k with
    | true => exact ha σ ℓ H1 ι1 A1 _ (L.up U1) M1 q1
    | false => exact hb σ ℓ H1 ι1 A1 _ (L.up U1) M1 q1)
theorem sim_not {t : TT} {ft : TF} (ht : Sim R eqR W t ft) : Sim R eqR W (tNot t) (tNotF ft) := fun σ ℓ H ι A Q L M q =>
  ht σ ℓ H ι A _ L M (q.bind fun k A1 ι1 H1 x U1 M1 v1 q1 => by
    cases v1
    exact q1.here M1 rfl)
theorem sim_and {t u : TT} {ft fu : TF} (ht : Sim R eqR W t ft) (hu : Sim R eqR W u fu) : Sim R eqR W (tAnd t u) (tAndF ft fu) := fun σ ℓ H ι A Q L M q =>
  ht σ ℓ H ι A _ L M (q.bind fun k A1 ι1 H1 x U1 M1 v1 q1 => by
    cases v1
    cases k with
    | true => exact hu σ ℓ H1 ι1 A1 _ (L.up U1) M1 q1
    | false => exact q1.here M1 rfl)
theorem sim_or {t u : TT} {ft fu : TF} (ht : Sim R eqR W t ft) (hu : Sim R eqR W u fu) : Sim R eqR W (tOr t u) (tOrF ft fu) := fun σ ℓ H ι A Q L M q =>
  ht σ ℓ H ι A _ L M (q.bind fun k A1 ι1 H1 x U1 M1 v1 q1 => by
    cases v1
    cases k with
    | true => exact q1.here M1 rfl
    | false => exact hu σ ℓ H1 ι1 A1 _ (L.up U1) M1 q1)
theorem VR.bl_inv {ι : List Addr} {H : Hp} {a : AV} {x : V} {b : Bool} (e : a = .bl b) (h : VR R ι H a x) : x = .bl b := by
  subst e
  unfold VR at h
  exact h
theorem sim_test (ha : Sim R (VR R) W ta fa) : Sim R eqR W (tTest ta) (tOfE fa) := fun σ ℓ H ι A Q L M q =>
  ha σ ℓ H ι A _ L M (q.bind fun a1 A1 ι1 H1 x U1 M1 v1 q1 => by
    cases a1 with
    | bl k =>
      unfold VR at v1
      exact ⟨k, v1, q1.here M1 rfl⟩
    | _ => exact False.elim q1)
theorem sim_tB (ha : Sim R (VR R) W ta fa) : Sim R eqR W (tB ta) (tOfE fa) := sim_test ha
theorem sim_andV (ha : Sim R (VR R) W ta fa) (hb : Sim R (VR R) W tb fb) : Sim R (VR R) W (tAndV ta tb) (eAndF fa fb) := fun σ ℓ H ι A Q L M q =>
  ha σ ℓ H ι A _ L M (q.bind fun a1 A1 ι1 H1 x U1 M1 v1 q1 => by
    cases a1 with
    | bl k =>
      unfold VR at v1
      refine ⟨k, v1, ?_⟩
      cases k with
      | true => exact hb σ ℓ H1 ι1 A1 _ (L.up U1) M1 q1
      | false => exact q1.here M1 (by unfold VR; rfl)
    | _ => exact False.elim q1)
theorem sim_orV (ha : Sim R (VR R) W ta fa) (hb : Sim R (VR R) W tb fb) : Sim R (VR R) W (tOrV ta tb) (eOrF fa fb) := fun σ ℓ H ι A Q L M q =>
  ha σ ℓ H ι A _ L M (q.bind fun a1 A1 ι1 H1 x U1 M1 v1 q1 => by
    cases a1 with
    | bl k =>
      unfold VR at v1
      refine ⟨k, v1, ?_⟩
      cases k with
      | true => exact q1.here M1 (by unfold VR; rfl)
      | false => exact hb σ ℓ H1 ι1 A1 _ (L.up U1) M1 q1
    | _ => exact False.elim q1)
theorem sim_notV (ha : Sim R (VR R) W ta fa) : Sim R (VR R) W (tNotV ta) (eNotF fa) := fun σ ℓ H ι A Q L M q =>
  ha σ ℓ H ι A _ L M (q.bind fun a1 A1 ι1 H1 x U1 M1 v1 q1 => by
    cases a1 with
    | bl k =>
      unfold VR at v1
      exact ⟨k, v1, q1.here M1 (by unfold VR; rfl)⟩
    | _ => exact False.elim q1)
end
end Sh

set_option Elab.async false
set_option linter.all false
set_option maxRecDepth 100000
set_option maxHeartbeats 2000000
namespace Sh
open PySem L2 PyProof.Rows

/-! ### inversion of VR -/
section
variable {R : Rc} {ι : List Addr} {H : Hp} {x : V}
theorem vr_non (h : VR R ι H .non x) : x = .non := by unfold VR at h; exact h
theorem vr_bl {b : Bool} (h : VR R ι H (.bl b) x) : x = .bl b := by unfold VR at h; exact h
theorem vr_int {i : Int} (h : VR R ι H (.int i) x) : x = .int i := by unfold VR at h; exact h
theorem vr_str {i : Str} (h : VR R ι H (.str i) x) : x = .str i := by unfold VR at h; exact h
theorem vr_tup {xs : List AV} (h : VR R ι H (.tup xs) x) : ∃ p vs, x = .ref p ∧ SqT R.K H p vs ∧ VRs R ι H xs vs := by unfold VR at h; exact h
theorem vr_ref {n : Nat} (h : VR R ι H (.ref n) x) : ∃ a, ι[n]? = some a ∧ x = .ref a := by unfold VR at h; exact h
theorem vr_fl {xs : List AV} (h : VR R ι H (.fl xs) x) : ∃ p vs, x = .ref p ∧ FzL R.K H p vs ∧ VRs R ι H xs vs := by unfold VR at h; exact h
theorem mk_non : VR R ι H .non .non := by unfold VR; rfl
theorem mk_bl {b : Bool} : VR R ι H (.bl b) (.bl b) := by unfold VR; rfl
theorem mk_int {i : Int} : VR R ι H (.int i) (.int i) := by unfold VR; rfl
theorem mk_str {i : Str} : VR R ι H (.str i) (.str i) := by unfold VR; rfl
theorem mk_tup {xs : List AV} {p : Addr} {vs : List V} (h : SqT R.K H p vs) (r : VRs R ι H xs vs) : VR R ι H (.tup xs) (.ref p) := by unfold VR; exact ⟨p, vs, rfl, h, r⟩
theorem mk_ref {n : Nat} {a : Addr} (h : ι[n]? = some a) : VR R ι H (.ref n) (.ref a) := by unfold VR; exact ⟨a, h, rfl⟩
def AH.lst? (A : AH) (n : Nat) : Option (List AV) := match A[n]? with
  | some (.lst xs) => some xs
  | _ => none
def AH.dct? (A : AH) (n : Nat) : Option (List (Key × AV)) := match A[n]? with
  | some (.dct xs) => some xs
  | _ => none
theorem lst_at {A : AH} {n : Nat} {xs : List AV} (h : A.lst? n = some xs) : A[n]? = some (.lst xs) := by
  unfold AH.lst? at h
  split at h
  · rename_i ys e
    cases h
    exact e
  · cases h
theorem dct_at {A : AH} {n : Nat} {xs : List (Key × AV)} (h : A.dct? n = some xs) : A[n]? = some (.dct xs) := by
  unfold AH.dct? at h
  split at h
  · rename_i ys e
    cases h
    exact e
  · cases h
theorem lst_rd {A : AH} {n : Nat} {xs : List AV} {a : Addr} (m : Emb R ι A H) (h : A.lst? n = some xs) (ha : ι[n]? = some a) : ∃ vs, H a = some (.lst vs) ∧ VRs R ι H xs vs := m.obj n _ a (lst_at h) ha
/-- a value that is read as a list -/
def sq? (a : AV) (A : AH) : Option (List AV) := match a with
  | .ref n => A.lst? n
  | .fl xs => some xs
  | _ => none
theorem sq_rd {A : AH} {a : AV} {xs : List AV} {x : V} (m : Emb R ι A H) (h : sq? a A = some xs) (r : VR R ι H a x) : ∃ p vs, x = .ref p ∧ SqL R.K H p vs ∧ VRs R ι H xs vs := by
  unfold sq? at h
  split at h
  · obtain ⟨p, hp, rfl⟩ := vr_ref r
    obtain ⟨vs, h1, h2⟩ := lst_rd m h hp
    exact ⟨p, vs, rfl, SqL.of h1, h2⟩
  · cases h
    obtain ⟨p, vs, rfl, h1, h2⟩ := vr_fl r
    exact ⟨p, vs, rfl, h1.sq, h2⟩
  · cases h
theorem dct_rd {A : AH} {n : Nat} {xs : List (Key × AV)} {a : Addr} (m : Emb R ι A H) (h : A.dct? n = some xs) (ha : ι[n]? = some a) : ∃ vs, H a = some (.dK vs) ∧ KR R ι H xs vs := m.obj n _ a (dct_at h) ha
end

/-! ### data -/
def atomD : AV → Option PyData
  | .non => some .none
  | .bl b => some (.bool b)
  | .int i => some (.int i)
  | .str x => some (.str x)
  | _ => none
def datsBy (f : AV → Option PyData) : List AV → Option (List PyData)
  | [] => some []
  | a :: as => match f a, datsBy f as with | some d, some ds => some (d :: ds) | _, _ => none
def dat (A : AH) : Nat → AV → Option PyData
  | 0, v => atomD v
  | n + 1, v => match v with
    | .tup xs => (datsBy (dat A n) xs).map .tuple
    | v => match sq? v A with
      | some xs => (datsBy (dat A n) xs).map .list
      | none => atomD v
section
variable {R : Rc} {ι : List Addr} {H : Hp} {A : AH}
theorem atomD_ok {v : AV} {x : V} {d : PyData} (h : atomD v = some d) (r : VR R ι H v x) : Dp R.K H x d ∧ d.plain = true ∧ d.depth = 0 := by
  cases v <;> simp only [atomD] at h <;> cases h
  · rw [vr_non r]; exact ⟨.non, rfl, by simp [PyData.depth]⟩
  · rw [vr_bl r]; exact ⟨.bl _, rfl, by simp [PyData.depth]⟩
  · rw [vr_int r]; exact ⟨.int _, rfl, by simp [PyData.depth]⟩
  · rw [vr_str r]; exact ⟨.str _, rfl, by simp [PyData.depth]⟩
theorem datsBy_ok {f : AV → Option PyData} {n : Nat} (hf : ∀ v x d, f v = some d → VR R ι H v x → Dp R.K H x d ∧ d.plain = true ∧ d.depth ≤ n) :
    ∀ {xs : List AV} {vs : List V} {ds : List PyData}, datsBy f xs = some ds → VRs R ι H xs vs → DpAll R.K H vs ds ∧ PyData.plainAll ds = true ∧ PyData.depthAll ds ≤ n
  | [], _, _, h, r => by
    unfold datsBy at h
    cases h
    unfold VRs at r
    subst r
    exact ⟨.nil, rfl, by simp [PyData.depthAll]⟩
  | a :: as, _, _, h, r => by
    unfold datsBy at h
    unfold VRs at r
    obtain ⟨v, vs, rfl, r1, r2⟩ := r
    split at h
    · rename_i d ds e1 e2
      cases h
      obtain ⟨h1, h2, h3⟩ := hf _ _ _ e1 r1
      obtain ⟨k1, k2, k3⟩ := datsBy_ok hf e2 r2
      refine ⟨.cons h1 k1, ?_, ?_⟩
      · show (d.plain && PyData.plainAll ds) = true
        rw [h2, k2]; rfl
      · simp only [PyData.depthAll]
        omega
    · cases h
theorem dat_ok (m : Emb R ι A H) : ∀ (n : Nat) (v : AV) (x : V) (d : PyData), dat A n v = some d → VR R ι H v x → Dp R.K H x d ∧ d.plain = true ∧ d.depth ≤ n
  | 0, v, x, d, h, r => by
    unfold dat at h
    obtain ⟨h1, h2, h3⟩ := atomD_ok h r
    exact ⟨h1, h2, by omega⟩
  | n + 1, v, x, d, h, r => by
    unfold dat at h
    split at h
    · rename_i xs
      cases e : datsBy (dat A n) xs with
      | none => rw [e] at h; cases h
      | some ds =>
        rw [e] at h
        cases h
        obtain ⟨p, vs, rfl, hs, rs⟩ := vr_tup r
        obtain ⟨k1, k2, k3⟩ := datsBy_ok (dat_ok m n) e rs
        refine ⟨.tup hs k1, k2, ?_⟩
        simp only [PyData.depth]
        omega
    · split at h
      · rename_i xs e0
        cases e : datsBy (dat A n) xs with
        | none => rw [e] at h; cases h
        | some ds =>
          rw [e] at h
          cases h
          obtain ⟨a, vs, rfl, hs, rs⟩ := sq_rd m e0 r
          obtain ⟨k1, k2, k3⟩ := datsBy_ok (dat_ok m n) e rs
          refine ⟨.lst hs k1, k2, ?_⟩
          simp only [PyData.depth]
          omega
      · obtain ⟨h1, h2, h3⟩ := atomD_ok h r
        exact ⟨h1, h2, by omega⟩
end

/-! ### operations -/
def OpS (R : Rc) (X : Cx) (f : Value → Value → Sem Value) (g : AV → AV → AH → Res AV) : Prop := ∃ r, OpR X f r ∧ SimO R r g
def opAdd (a b : AV) (A : AH) : Res AV := match a, b with
  | .int i, .int j => .ok (.int (i + j)) A
  | .str x, .str y => if x.length + y.length ≤ sizeLine then .ok (.str (x ++ y)) A else .bad
  | .tup xs, .tup ys => if xs.length + ys.length ≤ sizeLine then .ok (.tup (xs ++ ys)) A else .bad
  | .ref m, .ref n => match A.lst? m, A.lst? n with
    | some xs, some ys => if xs.length + ys.length ≤ sizeLine then .ok (.ref A.length) (A ++ [.lst (xs ++ ys)]) else .bad
    | _, _ => .bad
  | _, _ => .bad
def opSub (a b : AV) (A : AH) : Res AV := match a, b with
  | .int i, .int j => .ok (.int (i - j)) A
  | _, _ => .bad
def opFdiv (a b : AV) (A : AH) : Res AV := match a, b with
  | .int i, .int j => if 0 < j ∧ j < 1073741824 then .ok (.int (i / j)) A else if j ≠ 0 ∧ Nat.blt j.natAbs 18446744073709551616 = true then .ok (.int (i.fdiv j)) A else .bad
  | _, _ => .bad
def opMod (a b : AV) (A : AH) : Res AV := match a, b with
  | .int i, .int j => if 0 < j then .ok (.int (i % j)) A else if j ≠ 0 then .ok (.int (i.fmod j)) A else .bad
  | _, _ => .bad
def opAnd (a b : AV) (A : AH) : Res AV := match a, b with
  | .int i, .int j => .ok (.int (Builtin.bitAnd i j)) A
  | _, _ => .bad
def opOr (a b : AV) (A : AH) : Res AV := match a, b with
  | .int i, .int j => .ok (.int (Builtin.bitOr i j)) A
  | _, _ => .bad
def opXor (a b : AV) (A : AH) : Res AV := match a, b with
  | .int i, .int j => .ok (.int (Builtin.bitXor i j)) A
  | _, _ => .bad
def small64 (i : Int) : Bool := decide (-(2 ^ 64) < i ∧ i < 2 ^ 64)
def repV (xs : List AV) (k : Nat) : List AV := (List.replicate k xs).flatten
def opMul (a b : AV) (A : AH) : Res AV := match a, b with
  | .int i, .int j => if small64 i || small64 j then .ok (.int (i * j)) A else .bad
  | .ref n, .int k => (match A.lst? n with
    | some xs => if -(2 ^ 63) ≤ k ∧ k < 2 ^ 63 ∧ xs.length * k.toNat ≤ sizeLine then .ok (.ref A.length) (A ++ [.lst (repV xs k.toNat)]) else .bad
    | none => .bad)
  | .str x, .int k => if 0 ≤ k ∧ k < 2 ^ 62 ∧ x.length * k.toNat ≤ sizeLine then .ok (.str (Txt.mul x k)) A else .bad
  | _, _ => .bad
def powB (i j : Int) : Bool := Nat.ble (-j).toNat 0 && (Nat.ble j.toNat 1000000 && Nat.blt i.natAbs 18446744073709551616)
theorem powB_ok {i j : Int} (h : powB i j = true) : CPow i j := by
  unfold powB at h
  simp only [Bool.and_eq_true] at h
  have h1 : (-j).toNat ≤ 0 := Nat.le_of_ble_eq_true h.1
  have h2 : j.toNat ≤ 1000000 := Nat.le_of_ble_eq_true h.2.1
  have h3 : i.natAbs < 18446744073709551616 := Nat.le_of_ble_eq_true h.2.2
  exact ⟨by omega, by omega, by omega⟩
def opPow (a b : AV) (A : AH) : Res AV := match a, b with
  | .int i, .int j => if powB i j then .ok (.int (i ^ j.toNat)) A else .bad
  | _, _ => .bad
def cmpI (p : Int → Int → Bool) (a b : AV) (A : AH) : Res AV := match a, b with
  | .int i, .int j => .ok (.bl (p i j)) A
  | _, _ => .bad
def depthD : Nat := 12
def cEq (a b : AV) (A : AH) : Res AV := match dat A depthD a, dat A depthD b with
  | some d, some e => .ok (.bl (PyData.eqv d e)) A
  | _, _ => .bad
def cNe (a b : AV) (A : AH) : Res AV := match dat A depthD a, dat A depthD b with
  | some d, some e => .ok (.bl (!PyData.eqv d e)) A
  | _, _ => .bad
def isNonB : AV → Bool
  | .non => true
  | _ => false
def cIs (a b : AV) (A : AH) : Res AV := match b with
  | .non => .ok (.bl (isNonB a)) A
  | .bl k => (match a with | .bl j => .ok (.bl (decide (j = k))) A | _ => .bad)
  | _ => .bad
def cIsNot (a b : AV) (A : AH) : Res AV := match b with
  | .non => .ok (.bl (!isNonB a)) A
  | .bl k => (match a with | .bl j => .ok (.bl (!decide (j = k))) A | _ => .bad)
  | _ => .bad
def inD (d e : PyData) : Option Bool := match e with
  | .list xs => some (xs.any fun y => PyData.eqv y d)
  | .tuple xs => some (xs.any fun y => PyData.eqv y d)
  | _ => none
def keyOf : AV → Option Key
  | .int i => some (.inl i)
  | .str x => some (.inr x)
  | _ => none
def valA (kvs : List (Key × AV)) (k : Key) : Option AV := (kvs.find? fun kv => decide (kv.1 = k)).map (·.2)
def putA (kvs : List (Key × AV)) (k : Key) (v : AV) : List (Key × AV) :=
  if kvs.any (fun kv => decide (kv.1 = k)) then kvs.map (fun kv => if kv.1 = k then (kv.1, v) else kv) else kvs ++ [(k, v)]
def hasIn (a b : AV) (A : AH) : Option Bool := match a, b with
  | .str x, .str y => some (!(Builtin.Str.occurrences y x 0 y.length 1).isEmpty)
  | a, b => match dat A depthD a, dat A depthD b with
    | some d, some e => inD d e
    | _, _ => match b with
      | .ref n => (A.dct? n).bind fun kvs => (keyOf a).map fun k => (valA kvs k).isSome
      | _ => none
def cIn (a b : AV) (A : AH) : Res AV := match hasIn a b A with | some k => .ok (.bl k) A | none => .bad
def cNotIn (a b : AV) (A : AH) : Res AV := match hasIn a b A with | some k => .ok (.bl (!k)) A | none => .bad

section
variable {R : Rc} {X : Cx}
theorem simO_rI0 {g : Int → Int → V} {h : Int → Int → AV} (hg : ∀ ι H i j, VR R ι H (h i j) (g i j)) :
    SimO R (rI0 g) (fun a b A => match a, b with | .int i, .int j => .ok (h i j) A | _, _ => .bad) := fun a b x y H ι A Q E M r1 r2 q => by
  cases a with
  | int i =>
    cases b with
    | int j => exact ⟨i, j, vr_int r1, vr_int r2, q.here M (hg _ _ _ _)⟩
    | _ => exact False.elim q
  | _ => exact False.elim q
theorem op_sub_s : OpS R X (binaryOp .Sub) opSub := ⟨_, op_sub, simO_rI0 fun _ _ _ _ => mk_int⟩
theorem op_fdivG : OpR X (binaryOp .FloorDiv) (rI (fun _ j => j ≠ 0 ∧ j.natAbs.log2 < 9000) fun i j => .int (i.fdiv j)) := opI fun _ _ _ _ _ _ _ hc q => floordiv_int hc.1 q (.inl (PyProof.noPylong_of_log2 hc.2))
theorem log2_64 {n : Nat} (h : n < 18446744073709551616) : n.log2 < 9000 := by
  by_cases h0 : n = 0
  · subst h0; decide
  · have : n.log2 < 64 := (Nat.log2_lt h0).mpr h
    omega
theorem op_fdiv_s : OpS R X (binaryOp .FloorDiv) opFdiv := ⟨_, op_fdivG, fun a b x y H ι A Q E M r1 r2 q => by
  cases a with
  | int i =>
    cases b with
    | int j =>
      unfold opFdiv at q
      by_cases h : 0 < j ∧ j < 1073741824
      · simp only [if_pos h] at q
        refine ⟨i, j, vr_int r1, vr_int r2, ⟨by omega, log2_64 (by omega)⟩, ?_⟩
        show Q (.int (i.fdiv j)) H
        rw [Int.fdiv_eq_ediv_of_nonneg i (show 0 ≤ j by omega)]
        exact q.here M mk_int
      · simp only [if_neg h] at q
        by_cases h2 : j ≠ 0 ∧ Nat.blt j.natAbs 18446744073709551616 = true
        · simp only [if_pos h2] at q
          exact ⟨i, j, vr_int r1, vr_int r2, ⟨h2.1, log2_64 (Nat.le_of_ble_eq_true h2.2)⟩, q.here M mk_int⟩
        · simp only [if_neg h2] at q
          exact False.elim q
    | _ => exact False.elim q
  | _ => exact False.elim q⟩
theorem op_mod_s : OpS R X (binaryOp .Mod) opMod := ⟨_, op_modN, fun a b x y H ι A Q E M r1 r2 q => by
  cases a with
  | int i =>
    cases b with
    | int j =>
      unfold opMod at q
      by_cases h : 0 < j
      · simp only [if_pos h] at q
        refine ⟨i, j, vr_int r1, vr_int r2, by omega, ?_⟩
        show Q (.int (i.fmod j)) H
        rw [Int.fmod_eq_emod_of_nonneg i (show 0 ≤ j by omega)]
        exact q.here M mk_int
      · simp only [if_neg h] at q
        by_cases h2 : j ≠ 0
        · simp only [if_pos h2] at q
          exact ⟨i, j, vr_int r1, vr_int r2, h2, q.here M mk_int⟩
        · simp only [if_neg h2] at q
          exact False.elim q
    | _ => exact False.elim q
  | _ => exact False.elim q⟩
theorem op_and_s : OpS R X (binaryOp .BitAnd) opAnd := ⟨_, op_and, simO_rI0 fun _ _ _ _ => mk_int⟩
theorem op_or_s : OpS R X (binaryOp .BitOr) opOr := ⟨_, op_or, simO_rI0 fun _ _ _ _ => mk_int⟩
theorem op_xor_s : OpS R X (binaryOp .BitXor) opXor := ⟨_, op_xor, simO_rI0 fun _ _ _ _ => mk_int⟩
/-- x * k of a text -/
def rRepS : R2 := fun x y H Q => ∃ (a : Str) (k : Int), x = .str a ∧ y = .int k ∧ 0 ≤ k ∧ k < 2 ^ 62 ∧ a.length * k.toNat ≤ sizeLine ∧ Q (.str (Txt.mul a k)) H
theorem op_repS : OpR X (binaryOp .Mult) rRepS := by
  intro pins s σ H x y v u Q I rx ry h
  obtain ⟨a, k, rfl, rfl, h0, h1, h2, q⟩ := h
  obtain ⟨t, rfl⟩ := rx
  obtain ⟨t2, rfl⟩ := ry
  have hs : sizeLine = 16777216 := sizeLine_eq
  have h1' : k < 4611686018427387904 := h1
  refine SB.mul ⟨?_, fun hk hx => ?_, fun hk hx => ?_⟩ fun t' k' => ⟨.str _, H, I.tok _, ⟨_, rfl⟩, q⟩
  · have e1 : decide (k < -(2 ^ 63 : Int)) = false := decide_eq_false (by omega)
    have e2 : decide (k ≥ 2 ^ 63) = false := decide_eq_false (by omega)
    rw [e1, e2]
    rfl
  · intro hgt
    have hk2 : 0 < k := by omega
    have : (2 ^ 63 - 1) / k < (a.length : Int) := hgt
    have h3 := Int.lt_mul_of_ediv_lt hk2 this
    have h4 : ((a.length * k.toNat : Nat) : Int) = (a.length : Int) * k := by rw [Int.natCast_mul, Int.toNat_of_nonneg h0]
    have h5 : ((a.length * k.toNat : Nat) : Int) ≤ 16777216 := by omega
    rw [h4] at h5
    omega
  · exact decide_eq_false (Nat.not_lt.mpr h2)
theorem VRs.rep {ι : List Addr} {H : Hp} {as : List AV} {xs : List V} (r : VRs R ι H as xs) : ∀ k : Nat, VRs R ι H (repV as k) (List.replicate k xs).flatten
  | 0 => by unfold repV; simp; unfold VRs; rfl
  | k + 1 => by
    have h := VRs.rep r k
    unfold repV at h ⊢
    rw [List.replicate_succ, List.replicate_succ, List.flatten_cons, List.flatten_cons]
    exact r.append h
theorem op_mul_s : OpS R X (binaryOp .Mult) opMul := ⟨_, op_mul.or (op_rep.or op_repS), fun a b x y H ι A Q E M r1 r2 q => by
  cases a with
  | int i =>
    cases b with
    | int j =>
      unfold opMul at q
      by_cases h : (small64 i || small64 j) = true
      · simp only [if_pos h] at q
        refine .inl ⟨i, j, vr_int r1, vr_int r2, ?_, q.here M mk_int⟩
        rw [Bool.or_eq_true] at h
        exact h.elim (fun z => .inl (of_decide_eq_true z)) (fun z => .inr (of_decide_eq_true z))
      · simp only [if_neg h] at q
        exact False.elim q
    | _ => exact False.elim q
  | ref n =>
    cases b with
    | int k =>
      unfold opMul at q
      obtain ⟨p, hp, rfl⟩ := vr_ref r1
      simp only at q
      cases e : A.lst? n with
      | none => rw [e] at q; exact False.elim q
      | some xs =>
        rw [e] at q
        obtain ⟨vs, h1, v1⟩ := lst_rd M e hp
        by_cases h : -(2 ^ 63) ≤ k ∧ k < 2 ^ 63 ∧ xs.length * k.toNat ≤ sizeLine
        · simp only [if_pos h] at q
          exact .inr (.inl ⟨p, k, vs, rfl, vr_int r2, h1, h.1, h.2.1, by rw [← v1.length]; exact h.2.2, q.lstNew M (v1.rep _)⟩)
        · simp only [if_neg h] at q
          exact False.elim q
    | _ => exact False.elim q
  | str z =>
    cases b with
    | int k =>
      unfold opMul at q
      by_cases h : 0 ≤ k ∧ k < 2 ^ 62 ∧ z.length * k.toNat ≤ sizeLine
      · simp only [if_pos h] at q
        exact .inr (.inr ⟨z, k, vr_str r1, vr_int r2, h.1, h.2.1, h.2.2, q.here M mk_str⟩)
      · simp only [if_neg h] at q
        exact False.elim q
    | _ => exact False.elim q
  | _ => exact False.elim q⟩
theorem op_pow_s : OpS R X (binaryOp .Pow) opPow := ⟨_, op_pow, fun a b x y H ι A Q E M r1 r2 q => by
  cases a with
  | int i =>
    cases b with
    | int j =>
      unfold opPow at q
      by_cases h : powB i j = true
      · simp only [if_pos h] at q
        exact ⟨i, j, vr_int r1, vr_int r2, powB_ok h, q.here M mk_int⟩
      · simp only [if_neg h] at q
        exact False.elim q
    | _ => exact False.elim q
  | _ => exact False.elim q⟩
theorem op_add_s (hK : X.K = R.K) : OpS R X (binaryOp .Add) opAdd := by
  refine ⟨_, (op_add.or (op_add_str.or ((op_catA (X := X)).or op_cat))), fun a b x y H ι A Q E M r1 r2 q => ?_⟩
  cases a with
  | int i =>
    cases b with
    | int j => exact .inl ⟨i, j, vr_int r1, vr_int r2, q.here M mk_int⟩
    | _ => exact False.elim q
  | str i =>
    cases b with
    | str j =>
      unfold opAdd at q
      by_cases h : i.length + j.length ≤ sizeLine
      · simp only [if_pos h] at q
        exact .inr (.inl ⟨i, j, vr_str r1, vr_str r2, h, q.here M mk_str⟩)
      · simp only [if_neg h] at q
        exact False.elim q
    | _ => exact False.elim q
  | tup xs =>
    cases b with
    | tup ys =>
      unfold opAdd at q
      by_cases h : xs.length + ys.length ≤ sizeLine
      · simp only [if_pos h] at q
        obtain ⟨p, vs, rfl, h1, v1⟩ := vr_tup r1
        obtain ⟨p', vs', rfl, h2, v2⟩ := vr_tup r2
        refine .inr (.inr (.inl ⟨p, p', vs, vs', rfl, rfl, by rw [hK]; exact h1, by rw [hK]; exact h2, by rw [← v1.length, ← v2.length]; exact h, fun e => ?_, fun _ e => ?_, fun _ _ => ?_⟩))
        · have e' : xs = [] := List.length_eq_zero_iff.mp (by rw [v1.length, e]; rfl)
          subst e'
          exact q.here M r2
        · have e' : ys = [] := List.length_eq_zero_iff.mp (by rw [v2.length, e]; rfl)
          subst e'
          rw [List.append_nil] at q
          exact q.here M r1
        · exact q.tupNew M (v1.append v2)
      · simp only [if_neg h] at q
        exact False.elim q
    | _ => exact False.elim q
  | ref m =>
    cases b with
    | ref n =>
      unfold opAdd at q
      simp only at q
      split at q
      · rename_i xs ys e1 e2
        by_cases h : xs.length + ys.length ≤ sizeLine
        · simp only [if_pos h] at q
          obtain ⟨p, ha, rfl⟩ := vr_ref r1
          obtain ⟨p', hb, rfl⟩ := vr_ref r2
          obtain ⟨vs, h1, v1⟩ := lst_rd M e1 ha
          obtain ⟨vs', h2, v2⟩ := lst_rd M e2 hb
          exact .inr (.inr (.inr ⟨p, p', vs, vs', rfl, rfl, h1, h2, by rw [← v1.length, ← v2.length]; exact h, q.lstNew M (v1.append v2)⟩))
        · simp only [if_neg h] at q
          exact False.elim q
      · exact False.elim q
    | _ => exact False.elim q
  | _ => exact False.elim q
theorem op_lt_s : OpS R X (compareOp .Lt) (cmpI fun i j => decide (i < j)) := ⟨_, op_lt, simO_rI0 fun _ _ _ _ => mk_bl⟩
theorem op_le_s : OpS R X (compareOp .LtE) (cmpI fun i j => decide (i ≤ j)) := ⟨_, op_le, simO_rI0 fun _ _ _ _ => mk_bl⟩
theorem op_gt_s : OpS R X (compareOp .Gt) (cmpI fun i j => decide (j < i)) := ⟨_, op_gt, simO_rI0 fun _ _ _ _ => mk_bl⟩
theorem op_ge_s : OpS R X (compareOp .GtE) (cmpI fun i j => decide (j ≤ i)) := ⟨_, op_ge, simO_rI0 fun _ _ _ _ => mk_bl⟩
def rEqP (K : PySem.W.Frag) : R2 := fun x y H Q => ∃ d e, Dp K H x d ∧ Dp K H y e ∧ (d.plain = true ∧ d.depth ≤ 64) ∧ e.plain = true ∧ Q (.bl (PyData.eqv d e)) H
def rNeP (K : PySem.W.Frag) : R2 := fun x y H Q => ∃ d e, Dp K H x d ∧ Dp K H y e ∧ (d.plain = true ∧ d.depth ≤ 64) ∧ e.plain = true ∧ Q (.bl (!PyData.eqv d e)) H
theorem op_eqP (hu : X.A.units + 64 < cLine) : OpR X (compareOp .Eq) (rEqP X.K) := by
  intro pins s σ H x y v u Q I rx ry h
  obtain ⟨d, e, hd, he, ⟨sd, dd⟩, se, q⟩ := h
  obtain ⟨as, r1⟩ := Dp.reads I d x v hd rx
  obtain ⟨bs, r2⟩ := Dp.reads I e y u he ry
  exact PySem.SeqAt.eq_plain r1 r2 sd se (by omega) ⟨.bl _, H, I, rfl, q⟩
theorem op_neP (hu : X.A.units + 64 < cLine) : OpR X (compareOp .NotEq) (rNeP X.K) := by
  intro pins s σ H x y v u Q I rx ry h
  obtain ⟨d, e, hd, he, ⟨sd, dd⟩, se, q⟩ := h
  obtain ⟨as, r1⟩ := Dp.reads I d x v hd rx
  obtain ⟨bs, r2⟩ := Dp.reads I e y u he ry
  exact PySem.SeqAt.ne_plain r1 r2 sd se (by omega) ⟨.bl _, H, I, rfl, q⟩
theorem op_eq_s (hK : X.K = R.K) (hu : X.A.units + 64 < cLine) : OpS R X (compareOp .Eq) cEq := ⟨_, op_eqP hu, fun a b x y H ι A Q E M r1 r2 q => by
  unfold cEq at q
  split at q
  · rename_i d e h1 h2
    obtain ⟨k1, k2, k3⟩ := dat_ok M _ _ _ _ h1 r1
    obtain ⟨l1, l2, l3⟩ := dat_ok M _ _ _ _ h2 r2
    exact ⟨d, e, by rw [hK]; exact k1, by rw [hK]; exact l1, ⟨k2, Nat.le_trans k3 (by decide)⟩, l2, q.here M mk_bl⟩
  · exact False.elim q⟩
theorem op_ne_s (hK : X.K = R.K) (hu : X.A.units + 64 < cLine) : OpS R X (compareOp .NotEq) cNe := ⟨_, op_neP hu, fun a b x y H ι A Q E M r1 r2 q => by
  unfold cNe at q
  split at q
  · rename_i d e h1 h2
    obtain ⟨k1, k2, k3⟩ := dat_ok M _ _ _ _ h1 r1
    obtain ⟨l1, l2, l3⟩ := dat_ok M _ _ _ _ h2 r2
    exact ⟨d, e, by rw [hK]; exact k1, by rw [hK]; exact l1, ⟨k2, Nat.le_trans k3 (by decide)⟩, l2, q.here M mk_bl⟩
  · exact False.elim q⟩
theorem isNon_iff {ι : List Addr} {H : Hp} {a : AV} {x : V} (r : VR R ι H a x) : decide (x = .non) = isNonB a := by
  cases a with
  | non => rw [vr_non r]; rfl
  | bl b => rw [vr_bl r]; rfl
  | int b => rw [vr_int r]; rfl
  | str b => rw [vr_str r]; rfl
  | ty n => unfold VR at r; rw [r]; rfl
  | cls c => unfold VR at r; obtain ⟨_, _, _, rfl⟩ := r; rfl
  | ref n => obtain ⟨_, _, rfl⟩ := vr_ref r; rfl
  | tup xs => obtain ⟨_, _, rfl, _⟩ := vr_tup r; rfl
  | fl xs => obtain ⟨_, _, rfl, _⟩ := vr_fl r; rfl
  | gd n kvs => unfold VR at r; obtain ⟨_, _, _, rfl⟩ := r; rfl
theorem op_is_s : OpS R X (compareOp .Is) cIs := ⟨_, op_isN.or op_isBl, fun a b x y H ι A Q E M r1 r2 q => by
  cases b with
  | non => exact .inl ⟨vr_non r2, by rw [isNon_iff r1]; exact q.here M mk_bl⟩
  | bl k =>
    cases a with
    | bl j => exact .inr ⟨j, k, vr_bl r1, vr_bl r2, q.here M mk_bl⟩
    | _ => exact False.elim q
  | _ => exact False.elim q⟩
theorem op_isNot_s : OpS R X (compareOp .IsNot) cIsNot := ⟨_, op_notN.or op_notBl, fun a b x y H ι A Q E M r1 r2 q => by
  cases b with
  | non => exact .inl ⟨vr_non r2, by rw [isNon_iff r1]; exact q.here M mk_bl⟩
  | bl k =>
    cases a with
    | bl j => exact .inr ⟨j, k, vr_bl r1, vr_bl r2, q.here M mk_bl⟩
    | _ => exact False.elim q
  | _ => exact False.elim q⟩
/-! dict pairs -/
theorem KR.val {ι : List Addr} {H : Hp} (k : Key) : ∀ {as : List (Key × AV)} {vs : List (Key × V)}, KR R ι H as vs → (valA as k = none ∧ valV vs k = none) ∨ ∃ a x, valA as k = some a ∧ valV vs k = some x ∧ VR R ι H a x
  | [], _, h => by unfold KR at h; subst h; exact .inl ⟨rfl, rfl⟩
  | (f, a) :: as, _, h => by
    unfold KR at h
    obtain ⟨v, r, rfl, q, t⟩ := h
    by_cases e : f = k
    · refine .inr ⟨a, v, ?_, valV_pos e, q⟩
      simp [valA, List.find?_cons, e]
    · have e1 : valA ((f, a) :: as) k = valA as k := by simp [valA, List.find?_cons, e]
      rw [e1, valV_neg (p := (f, v)) e]
      exact KR.val k t
theorem KR.any {ι : List Addr} {H : Hp} (k : Key) : ∀ {as : List (Key × AV)} {vs : List (Key × V)}, KR R ι H as vs → as.any (fun kv => decide (kv.1 = k)) = vs.any (fun kv => decide (kv.1 = k))
  | [], _, h => by unfold KR at h; subst h; rfl
  | (f, a) :: as, _, h => by
    unfold KR at h
    obtain ⟨v, r, rfl, q, t⟩ := h
    simp only [List.any_cons, KR.any k t]
theorem KR.map {ι : List Addr} {H : Hp} (k : Key) {b : AV} {y : V} (hb : VR R ι H b y) : ∀ {as : List (Key × AV)} {vs : List (Key × V)}, KR R ι H as vs →
    KR R ι H (as.map fun kv => if kv.1 = k then (kv.1, b) else kv) (vs.map fun kv => if kv.1 = k then (kv.1, y) else kv)
  | [], _, h => by unfold KR at h; subst h; simp; unfold KR; rfl
  | (f, a) :: as, _, h => by
    unfold KR at h
    obtain ⟨v, r, rfl, q, t⟩ := h
    simp only [List.map_cons]
    by_cases e : f = k
    · simp only [if_pos e]
      unfold KR
      exact ⟨y, _, rfl, hb, KR.map k hb t⟩
    · simp only [if_neg e]
      unfold KR
      exact ⟨v, _, rfl, q, KR.map k hb t⟩
theorem KR.append {ι : List Addr} {H : Hp} {k : Key} {b : AV} {y : V} (hb : VR R ι H b y) : ∀ {as : List (Key × AV)} {vs : List (Key × V)}, KR R ι H as vs → KR R ι H (as ++ [(k, b)]) (vs ++ [(k, y)])
  | [], _, h => by unfold KR at h; subst h; show KR R ι H [(k, b)] [(k, y)]; unfold KR; exact ⟨y, [], rfl, hb, by unfold KR; rfl⟩
  | (f, a) :: as, _, h => by
    unfold KR at h
    obtain ⟨v, r, rfl, q, t⟩ := h
    show KR R ι H ((f, a) :: (as ++ [(k, b)])) ((f, v) :: (r ++ [(k, y)]))
    unfold KR
    exact ⟨v, _, rfl, q, KR.append hb t⟩
theorem KR.put {ι : List Addr} {H : Hp} {k : Key} {b : AV} {y : V} {as : List (Key × AV)} {vs : List (Key × V)} (hb : VR R ι H b y) (h : KR R ι H as vs) : KR R ι H (putA as k b) (putK vs k y) := by
  unfold putA putK
  rw [h.any k]
  by_cases e : (vs.any fun kv => decide (kv.1 = k)) = true
  · rw [if_pos e, if_pos e]
    exact h.map k hb
  · rw [if_neg e, if_neg e]
    exact KR.append hb h
theorem KR.length {ι : List Addr} {H : Hp} : ∀ {as : List (Key × AV)} {vs : List (Key × V)}, KR R ι H as vs → as.length = vs.length
  | [], _, h => by unfold KR at h; subst h; rfl
  | (f, a) :: as, _, h => by
    unfold KR at h
    obtain ⟨v, r, rfl, q, t⟩ := h
    rw [List.length_cons, List.length_cons, KR.length t]
theorem keyOf_ok {ι : List Addr} {H : Hp} {a : AV} {k : Key} {x : V} (h : keyOf a = some k) (r : VR R ι H a x) : x = kV k := by
  cases a <;> simp only [keyOf] at h <;> cases h
  · rw [vr_int r]; rfl
  · rw [vr_str r]; rfl
/-! in -/
def rInP (K : PySem.W.Frag) (neg : Bool) : R2 := fun x y H Q => ∃ b, Q (.bl (if neg then !b else b)) H ∧
  ((∃ i j, x = .str i ∧ y = .str j ∧ b = (!(Builtin.Str.occurrences j i 0 j.length 1).isEmpty)) ∨
   (∃ d e, Dp K H x d ∧ Dp K H y e ∧ (d.plain = true ∧ d.depth ≤ 62) ∧ e.plain = true ∧ inD d e = some b) ∨
   (∃ a o, y = .ref a ∧ DGet H a x o ∧ b = o.isSome))
theorem op_inP (hu : X.A.units + 64 < cLine) : OpR X (compareOp .In) (rInP X.K false) := by
  intro pins s σ H x y v u Q I rx ry h
  obtain ⟨b, q, h⟩ := h
  rcases h with ⟨i, j, rfl, rfl, rfl⟩ | ⟨d, e, hd, he, ⟨sd, dd⟩, se, hb⟩ | ⟨a, o, rfl, g, rfl⟩
  · exact op_in_str pins s σ H _ _ v u Q I rx ry ⟨i, j, rfl, rfl, q⟩
  · obtain ⟨as, r1⟩ := Dp.reads I d x v hd rx
    obtain ⟨bs, r2⟩ := Dp.reads I e y u he ry
    cases e with
    | list xs =>
      simp only [inD] at hb
      cases hb
      exact PySem.SeqAt.in_list_data r2 r1 se sd (by omega) ⟨.bl _, H, I, rfl, q⟩
    | tuple xs =>
      simp only [inD] at hb
      cases hb
      exact PySem.SeqAt.in_tuple_data r2 r1 se sd (by omega) ⟨.bl _, H, I, rfl, q⟩
    | _ => simp only [inD] at hb; cases hb
  · cases ry
    exact d_in (by omega) I g rx fun s' I' => ⟨.bl _, H, I', rfl, q⟩
theorem op_notInP (hu : X.A.units + 64 < cLine) : OpR X (compareOp .NotIn) (rInP X.K true) := by
  intro pins s σ H x y v u Q I rx ry h
  obtain ⟨b, q, h⟩ := h
  rcases h with ⟨i, j, rfl, rfl, rfl⟩ | ⟨d, e, hd, he, ⟨sd, dd⟩, se, hb⟩ | ⟨a, o, rfl, g, rfl⟩
  · exact L2.op_notIn_str pins s σ H _ _ v u Q I rx ry ⟨i, j, rfl, rfl, q⟩
  · obtain ⟨as, r1⟩ := Dp.reads I d x v hd rx
    obtain ⟨bs, r2⟩ := Dp.reads I e y u he ry
    cases e with
    | list xs =>
      simp only [inD] at hb
      cases hb
      exact PySem.SeqAt.notIn_list_data r2 r1 se sd (by omega) ⟨.bl _, H, I, rfl, q⟩
    | tuple xs =>
      simp only [inD] at hb
      cases hb
      exact PySem.SeqAt.notIn_tuple_data r2 r1 se sd (by omega) ⟨.bl _, H, I, rfl, q⟩
    | _ => simp only [inD] at hb; cases hb
  · cases ry
    exact d_notIn (by omega) I g rx fun s' I' => ⟨.bl _, H, I', rfl, q⟩
theorem hasIn_ok {ι : List Addr} {H : Hp} {A : AH} {a b : AV} {x y : V} {k : Bool} (M : Emb R ι A H) (r1 : VR R ι H a x) (r2 : VR R ι H b y) (h : hasIn a b A = some k) :
    (∃ i j, x = .str i ∧ y = .str j ∧ k = (!(Builtin.Str.occurrences j i 0 j.length 1).isEmpty)) ∨
    (∃ d e, Dp R.K H x d ∧ Dp R.K H y e ∧ (d.plain = true ∧ d.depth ≤ 62) ∧ e.plain = true ∧ inD d e = some k) ∨
    (∃ a o, y = .ref a ∧ DGet H a x o ∧ k = o.isSome) := by
  unfold hasIn at h
  split at h
  · cases h
    exact .inl ⟨_, _, vr_str r1, vr_str r2, rfl⟩
  · split at h
    · rename_i d e h1 h2
      obtain ⟨k1, k2, k3⟩ := dat_ok M _ _ _ _ h1 r1
      obtain ⟨l1, l2, l3⟩ := dat_ok M _ _ _ _ h2 r2
      exact .inr (.inl ⟨d, e, k1, l1, ⟨k2, Nat.le_trans k3 (by decide)⟩, l2, h⟩)
    · split at h
      · rename_i n hn hn2
        cases e0 : A.dct? n with
        | none => rw [e0] at h; cases h
        | some kvs =>
          rw [e0] at h
          simp only [Option.bind_some] at h
          cases e1 : keyOf a with
          | none => rw [e1] at h; cases h
          | some key =>
            rw [e1] at h
            simp only [Option.map_some] at h
            cases h
            obtain ⟨p, hp, rfl⟩ := vr_ref r2
            obtain ⟨vs, h1, h2⟩ := dct_rd M e0 hp
            refine .inr (.inr ⟨p, valV vs key, rfl, ?_, ?_⟩)
            · rw [keyOf_ok e1 r1]
              exact DGet.k h1
            · rcases h2.val key with ⟨z1, z2⟩ | ⟨a', x', z1, z2, _⟩ <;> rw [z1, z2] <;> rfl
      · cases h
theorem op_in_s (hK : X.K = R.K) (hu : X.A.units + 64 < cLine) : OpS R X (compareOp .In) cIn := ⟨_, op_inP hu, fun a b x y H ι A Q E M r1 r2 q => by
  unfold cIn at q
  split at q
  · rename_i k h
    refine ⟨k, q.here M mk_bl, ?_⟩
    rw [hK]
    exact hasIn_ok M r1 r2 h
  · exact False.elim q⟩
theorem op_notIn_s (hK : X.K = R.K) (hu : X.A.units + 64 < cLine) : OpS R X (compareOp .NotIn) cNotIn := ⟨_, op_notInP hu, fun a b x y H ι A Q E M r1 r2 q => by
  unfold cNotIn at q
  split at q
  · rename_i k h
    refine ⟨k, q.here M mk_bl, ?_⟩
    rw [hK]
    exact hasIn_ok M r1 r2 h
  · exact False.elim q⟩
end
end Sh

set_option Elab.async false
set_option linter.all false
set_option maxRecDepth 100000
set_option maxHeartbeats 4000000
/-! len of a dict of the top -/
namespace L2
open PySem PySem.Spec PyProof.Rows
def AtD (h : Heap) (d : Addr) (m : Nat) : Prop := ∃ o es ep, h.get? d = some o ∧ o.cls = .type "dict" ∧ o.data = .dict es ep ∧ es.size = m
section
variable {prog : Program} {w : World} {A : Around} {E : Value → Shared → Prop} {s : Shared}
theorem meets_kd_len (d : Addr) (m : Nat) (hd : (d == sysModules) = false) :
    MeetsIn prog w (Builtin.«dict.__len__» ⟨[.ref d], []⟩) (fun _ R s => AtD s.heap d m ∧ R (.ok (.ret (.int m s.toks))) { s with toks := s.toks + 1 }) :=
  .of_wp fun A R s ⟨hm, h⟩ => by
    obtain ⟨o, es, ep, ho, hc, hdat, hn⟩ := hm
    show wpAny _ _ (dictSize d >>= _) _ _ s
    unfold dictSize
    refine wpAny_bind (wpAny_bind (wpAny_dictEntries ho hdat (wpAny_pure ?_)))
    show wpAny _ _ (Builtin.Dict.pendingCount d >>= _) _ _ s
    refine wpAny_bind (wpAny_pendingCount_other hd ?_)
    refine wpAny_ret_mkInt ?_
    rw [Nat.add_zero, hn]; exact h
theorem kd_lenBody {d : Addr} {m : Nat} {Q : Value → Shared → Prop} (hd : (d == sysModules) = false) (hm : AtD s.heap d m) (hfit : (m : Int) < 2 ^ 63)
    (h : Q (.int m (s.toks + 1)) { s with toks := s.toks + 1 + 1 }) : wpAny (model prog w) A (Builtin.«len» ⟨[.ref d], []⟩) (fun fin s' => ∃ r, fin = .done (.ret r) ∧ Q r s') E s := by
  have ty : s.TypeIs (.ref d) "dict" := by
    obtain ⟨o, es, ep, ho, hc, _⟩ := hm
    exact ⟨o, ho, hc⟩
  unfold Builtin.«len»
  refine wpAny_bind (m := oneArg "len" _) (wpAny_pure ?_)
  refine wpAny_bind (m := callSpecial? (.ref d) (Str.ofString "__len__")) (wpAny_callSpecial?_slot (name := Str.ofString "__len__") ty F.slot_dict_len
    (call_meetsIn F.slot_dict_len ty F.entry_dict_len (F.args_dict_len_1 _) (meets_kd_len d m hd) ⟨hm, ?_⟩))
  show wpAny _ _ _ _ _ { s with toks := s.toks + 1 }
  refine wpAny_bind (wpAny_holding (wpAny_pure ?_))
  refine wpAny_bind (wpAny_letGo ?_)
  show wpAny _ _ (if ((m : Nat) : Int) < 0 then _ else _) _ _ _
  rw [if_neg (by omega)]
  show wpAny _ _ (if ((m : Nat) : Int) ≥ 2 ^ 63 then _ else _) _ _ _
  rw [if_neg (by omega)]
  exact wpAny_bind (wpAny_mkInt (wpAny_pure ⟨_, rfl, h⟩))
theorem kd_len {d : Addr} {m : Nat} {Q : Value → Shared → Prop} (hd : (d == sysModules) = false) (hm : AtD s.heap d m) (hfit : (m : Int) < 2 ^ 63)
    (h : Q (.int m (s.toks + 1)) { s with toks := s.toks + 1 + 1 }) : wpAny (model prog w) A (call (.builtin "len") [.ref d]) Q E s :=
  Calls.call_function_entry kind_len plain_len entry_len (args_len1 _) (kd_lenBody hd hm hfit h)
end
theorem call_lenKd {X : Cx} : CallR X (.builtin "len") (fun xs H Q => ∃ d es n, xs = [.ref d] ∧ KDict X.K X.w d es n ∧ es.size ≤ sizeLine ∧ Q (.int es.size) H) := by
  intro pins s σ H xs us Q I r h
  obtain ⟨d, es, n, rfl, D, hz, q⟩ := h
  obtain ⟨u, rfl, r1⟩ := vals1 r
  cases r1
  have hs : sizeLine = 16777216 := sizeLine_eq
  refine kd_len D.low ⟨_, es, n, I.kIn _ _ D.at_, rfl, rfl, rfl⟩ (by omega) ?_
  have I1 := I.tok (s.toks + 1)
  exact ⟨.int _, H, I.tok _, ⟨_, rfl⟩, q⟩
end L2

set_option Elab.async false
set_option linter.all false
set_option maxRecDepth 100000
set_option maxHeartbeats 2000000
namespace Sh
open PySem L2 PyProof.Rows

/-! ### subscripts -/
/-- a dict of the written part with int keys -/
def KDctI (K : PySem.W.Frag) (a : Addr) (i : Int) (v : V) : Prop :=
  ∃ es n u, K.lookup a = some ⟨.type "dict", none, .dict es n, #[]⟩ ∧ (∀ e ∈ es, ∃ k t, e.key = .int k t ∧ e.hash = hashInt k) ∧ findBy Value.isInt es i = some u ∧ RelV v u
def rIxDI (K : PySem.W.Frag) : R2 := fun x y H Q => ∃ p i v, x = .ref p ∧ y = .int i ∧ KDctI K p i v ∧ Q v H
theorem ix_kdictI {X : Cx} : IxR X (rIxDI X.K) := by
  intro value slice pins s σ H x y v u Q I rx ry h hs
  obtain ⟨p, i, r, rfl, rfl, ⟨es, n, u0, hl, hk, e, ru⟩, q⟩ := h
  obtain rfl : v = Value.ref p := rx
  obtain ⟨t, rfl⟩ := ry
  have hm : s.heap.MapOf (intKind X.prog X.w) p (fun k => findBy Value.isInt es k) := ⟨_, es, n, I.kIn _ _ hl, ⟨rfl, rfl, rfl⟩, rfl, fun e he => by
    obtain ⟨k, t, e1, e2⟩ := hk e he
    exact ⟨k, by rw [e1]; exact intKind_is X.prog X.w k t, e2⟩, fun _ => rfl⟩
  exact tail_any hm.typeIs slot_dict_getitem.lookup (wpAny_getItem_of (intKind_is X.prog X.w i t) hm e ⟨r, H, I.tok _, ru, q⟩) hs
def strK (kv : Key × AV) : Bool := match kv.1 with
  | .inr _ => true
  | .inl _ => false
/-- what the table of a written dict says -/
def GdOk (R : Rc) : Prop := ∀ n kvs p, R.gdT n = some kvs → R.gdA n = some p → (∀ z v, valA kvs (.inr z) = some v → ∃ y, KDct R.K R.w p z y ∧ ∀ ι H, VR R ι H v y) ∧ (∀ i v, valA kvs (.inl i) = some v → ∃ y, KDctI R.K p i y ∧ ∀ ι H, VR R ι H v y) ∧ (kvs.all strK = true → ∃ es m, KDict R.K R.w p es m ∧ es.size = kvs.length ∧ ∀ z, valA kvs (.inr z) = none → PySem.W.nsIn R.K p z = some none)
def atA (xs : List AV) (i : Int) (A : AH) : Res AV := match atI xs i with | some v => .ok v A | none => .bad
def opIx (a b : AV) (A : AH) : Res AV := match a, b with
  | .tup xs, .int i => atA xs i A
  | .str x, .int i => if x.length ≤ sizeLine then (match atI x.cps.toList i with | some c => .ok (.str ⟨#[c]⟩) A | none => .bad) else .bad
  | .gd _ kvs, .str z => match valA kvs (.inr z) with | some v => .ok v A | none => .bad
  | .gd _ kvs, .int i => match valA kvs (.inl i) with | some v => .ok v A | none => .bad
  | .fl xs, .int i => atA xs i A
  | .ref n, k => match A.lst? n, k with
    | some xs, .int i => atA xs i A
    | _, k => match A.dct? n, keyOf k with
      | some kvs, some key => (match valA kvs key with | some v => .ok v A | none => .bad)
      | _, _ => .bad
  | _, _ => .bad
theorem VRs.atI {R : Rc} {ι : List Addr} {H : Hp} {as : List AV} {xs : List V} {i : Int} {a : AV} (r : VRs R ι H as xs) (h : L2.atI as i = some a) : ∃ x, L2.atI xs i = some x ∧ VR R ι H a x := by
  unfold L2.atI at h ⊢
  rw [← r.length]
  cases e : ixN as.length i with
  | none => rw [e] at h; cases h
  | some j =>
    rw [e] at h
    simp only [Option.bind_some] at h ⊢
    exact r.get h
def rIxE (X : Cx) : R2 := fun x y H Q => rIx X.K x y H Q ∨ rIxD X.K X.w x y H Q ∨ rIxDI X.K x y H Q ∨ ∃ a v, x = .ref a ∧ DGet H a y (some v) ∧ Q v H
section
variable {R : Rc} {X : Cx}
theorem ix_dict (hu : X.A.units + 64 < cLine) : IxR X (fun x y H Q => ∃ a v, x = .ref a ∧ DGet H a y (some v) ∧ Q v H) := by
  intro value slice pins s σ H x y v u Q I rx ry h hs
  obtain ⟨a, z, rfl, g, q⟩ := h
  obtain rfl : v = Value.ref a := rx
  exact tail_any (dict_typeIs I g) PySem.F.slot_dict_getitem.lookup (d_getItem (by omega) I g ry fun w' s' I' rw' => ⟨z, H, I', rw', q⟩) hs
theorem ix_all (hu : X.A.units + 64 < cLine) : IxR X (rIxE X) := ix_seq.or (ix_kdict.or (ix_kdictI.or (ix_dict hu)))
theorem simIx (hK : X.K = R.K) (hw : X.w = R.w) (hg : GdOk R) : SimO R (rIxE X) opIx := fun a b x y H ι A Q E M r1 r2 q => by
  unfold opIx at q
  split at q
  · rename_i xs i
    unfold atA at q
    split at q
    · rename_i v e
      obtain ⟨p, vs, rfl, h1, v1⟩ := vr_tup r1
      obtain ⟨z, e1, r3⟩ := v1.atI e
      exact .inl (.inr (.inl ⟨p, vs, i, z, rfl, vr_int r2, by rw [hK]; exact h1, e1, q.here M r3⟩))
    · exact False.elim q
  · rename_i s i
    split at q
    · rename_i hl
      split at q
      · rename_i c e
        exact .inl (.inr (.inr ⟨s, i, c, vr_str r1, vr_int r2, hl, e, q.here M mk_str⟩))
      · exact False.elim q
    · exact False.elim q
  · rename_i n kvs z
    split at q
    · rename_i v e
      unfold VR at r1
      obtain ⟨p, h1, h2, rfl⟩ := r1
      obtain ⟨yv, k1, k2⟩ := (hg n kvs p h2 h1).1 z v e
      exact .inr (.inl ⟨p, z, yv, rfl, vr_str r2, by rw [hK, hw]; exact k1, q.here M (k2 _ _)⟩)
    · exact False.elim q
  · rename_i n kvs i
    split at q
    · rename_i v e
      unfold VR at r1
      obtain ⟨p, h1, h2, rfl⟩ := r1
      obtain ⟨yv, k1, k2⟩ := (hg n kvs p h2 h1).2.1 i v e
      exact .inr (.inr (.inl ⟨p, i, yv, rfl, vr_int r2, by rw [hK]; exact k1, q.here M (k2 _ _)⟩))
    · exact False.elim q
  · rename_i xs i
    unfold atA at q
    split at q
    · rename_i v e
      obtain ⟨p, vs, rfl, h1, v1⟩ := vr_fl r1
      obtain ⟨z, e1, r3⟩ := v1.atI e
      exact .inl (.inl ⟨p, vs, i, z, rfl, vr_int r2, by rw [hK]; exact h1.sq, e1, q.here M r3⟩)
    · exact False.elim q
  · rename_i n
    obtain ⟨p, hp, rfl⟩ := vr_ref r1
    split at q
    · rename_i xs i e
      unfold atA at q
      split at q
      · rename_i v e2
        obtain ⟨vs, h1, v1⟩ := lst_rd M e hp
        obtain ⟨z, e1, r3⟩ := v1.atI e2
        exact .inl (.inl ⟨p, vs, i, z, rfl, vr_int r2, SqL.of h1, e1, q.here M r3⟩)
      · exact False.elim q
    · split at q
      · rename_i kvs key e1 e2
        split at q
        · rename_i v e3
          obtain ⟨vs, h1, h2⟩ := dct_rd M e1 hp
          rcases h2.val key with ⟨z1, z2⟩ | ⟨a', x', z1, z2, z3⟩
          · rw [z1] at e3; cases e3
          · rw [z1] at e3
            cases e3
            refine .inr (.inr (.inr ⟨p, x', rfl, ?_, q.here M z3⟩))
            rw [keyOf_ok e2 r2, ← z2]
            exact DGet.k h1
        · exact False.elim q
      · exact False.elim q
  · exact False.elim q
end
/-! ### slices -/
def cutA (xs : List AV) (lo hi : Option Int) : List AV := (xs.drop (HT.sIx xs.length 0 lo)).take (HT.sIx xs.length xs.length hi - HT.sIx xs.length 0 lo)
theorem VRs.cut {R : Rc} {ι : List Addr} {H : Hp} {as : List AV} {xs : List V} (lo hi : Option Int) (r : VRs R ι H as xs) : VRs R ι H (cutA as lo hi) (cutV xs lo hi) := by
  unfold cutA cutV
  rw [← r.length]
  exact (r.drop _).take _

def opSl (a : AV) (lo hi : Option Int) (A : AH) : Res AV := match a with
  | .tup xs => .ok (.tup (cutA xs lo hi)) A
  | .str x => if x.length ≤ sizeLine then .ok (.str (cutS x lo hi)) A else .bad
  | a => match sq? a A with
    | some xs => .ok (.ref A.length) (A ++ [.lst (cutA xs lo hi)])
    | none => .bad
abbrev OF := LSt → AH → Res (Option Int)
def oNone : OF := fun _ A => .ok none A
def oSome (f : EF) : OF := fun ℓ A => (f ℓ A).bind fun a A => match a with | .int i => .ok (some i) A | _ => .bad
def eSl (f : EF) (l h : OF) : EF := fun ℓ A => (f ℓ A).bind fun a A => (l ℓ A).bind fun lo A => (h ℓ A).bind fun hi A => opSl a lo hi A
def SO (R : Rc) (X : Cx) (W : WX) (e : Option Expr) (f : OF) : Prop := ∃ t, PO X e t ∧ Sim R eqR W t f
def SimSl (R : Rc) (r : V → Option Int → Option Int → Hp → VK → Prop) (g : AV → Option Int → Option Int → AH → Res AV) : Prop :=
  ∀ a x lo hi H ι A Q E, Emb R ι A H → VR R ι H a x → Then R (VR R) (g a lo hi A) ι H Q E → r x lo hi H Q
section
variable {R : Rc} {X : Cx} {W : WX}
theorem sim_oNone : Sim R eqR W tNoPart oNone := fun σ ℓ H ι A Q L M q => q.here M rfl
theorem sim_oSome {ta : TE} {fa : EF} (ha : Sim R (VR R) W ta fa) : Sim R eqR W (tPart ta) (oSome fa) := fun σ ℓ H ι A Q L M q =>
  ha σ ℓ H ι A _ L M (q.bind fun a1 A1 ι1 H1 x U1 M1 v1 q1 => by
    cases a1 with
    | int i => exact ⟨i, vr_int v1, q1.here M1 rfl⟩
    | _ => exact False.elim q1)
theorem sim_sl {r : V → Option Int → Option Int → Hp → VK → Prop} {ta : TE} {fa : EF} {tl th : TO} {fl fh : OF} (hr : SimSl R r opSl) (ha : Sim R (VR R) W ta fa) (hl : Sim R eqR W tl fl) (hh : Sim R eqR W th fh) :
    Sim R (VR R) W (tSl r ta tl th) (eSl fa fl fh) := fun σ ℓ H ι A Q L M q =>
  ha σ ℓ H ι A _ L M (q.bind fun a1 A1 ι1 H1 x U1 M1 v1 q1 => hl σ ℓ H1 ι1 A1 _ (L.up U1) M1 (q1.bind fun a2 A2 ι2 H2 lo U2 M2 v2 q2 => hh σ ℓ H2 ι2 A2 _ ((L.up U1).up U2) M2 (q2.bind fun a3 A3 ι3 H3 hi U3 M3 v3 q3 => by
    cases v2
    cases v3
    exact hr _ _ _ _ _ _ _ _ _ M3 ((v1.up U2).up U3) q3)))
theorem sl_all : SlR X (fun x lo hi H Q => rSlA X.K x lo hi H Q ∨ rSlL X.K x lo hi H Q ∨ rSlS x lo hi H Q) := sl_tupA.or (sl_list.or sl_str)
theorem simSl (hK : X.K = R.K) : SimSl R (fun x lo hi H Q => rSlA X.K x lo hi H Q ∨ rSlL X.K x lo hi H Q ∨ rSlS x lo hi H Q) opSl := fun a x lo hi H ι A Q E M r1 q => by
  unfold opSl at q
  split at q
  · rename_i xs
    obtain ⟨p, vs, rfl, h1, v1⟩ := vr_tup r1
    refine .inl ⟨p, vs, rfl, by rw [hK]; exact h1, fun e => ?_, fun _ => q.tupNew M (v1.cut lo hi)⟩
    refine q.here M (mk_tup h1 ?_)
    have e2 : cutA xs lo hi = xs := by
      unfold cutA
      rw [v1.length, e.1, e.2, List.drop_zero, Nat.sub_zero, List.take_of_length_le (by rw [v1.length]; exact Nat.le_refl _)]
    rw [e2]
    exact v1
  · rename_i s
    split at q
    · rename_i hl
      exact .inr (.inr ⟨s, vr_str r1, hl, q.here M mk_str⟩)
    · exact False.elim q
  · split at q
    · rename_i xs e
      obtain ⟨p, vs, rfl, h1, v1⟩ := sq_rd M e r1
      exact .inr (.inl ⟨p, vs, rfl, by rw [hK]; exact h1, q.lstNew M (v1.cut lo hi)⟩)
    · exact False.elim q
end

/-! ### built-in functions by name -/
def bLen (as : List AV) (A : AH) : Res AV := match as with
  | [.str x] => if x.length ≤ sizeLine then .ok (.int x.length) A else .bad
  | [.tup xs] => .ok (.int xs.length) A
  | [a] => match sq? a A with
    | some xs => .ok (.int xs.length) A
    | none => match a with
      | .ref n => match A.dct? n with | some kvs => .ok (.int kvs.length) A | none => .bad
      | .gd _ kvs => if kvs.all strK && decide (kvs.length ≤ sizeLine) then .ok (.int kvs.length) A else .bad
      | _ => .bad
  | _ => .bad
def bInt (as : List AV) (A : AH) : Res AV := match as with
  | [.int i] => .ok (.int i) A
  | [.bl k] => .ok (.int (if k then 1 else 0)) A
  | _ => .bad
def bAbs (as : List AV) (A : AH) : Res AV := match as with
  | [.int i] => .ok (.int (if i < 0 then -i else i)) A
  | _ => .bad
def intsA : List AV → Option (List Int)
  | [] => some []
  | .int i :: as => (intsA as).map (i :: ·)
  | _ => none
def minI : List Int → Int
  | [] => 0
  | [i] => i
  | i :: is => let m := minI is; if m < i then m else i
def maxI : List Int → Int
  | [] => 0
  | [i] => i
  | i :: is => let m := maxI is; if i < m then m else i
def bMin (as : List AV) (A : AH) : Res AV := match as with
  | [.int i, .int j] => .ok (.int (if j < i then j else i)) A
  | [a] => match (sq? a A).bind intsA with
    | some (i :: is) => .ok (.int (minI (i :: is))) A
    | _ => .bad
  | _ => .bad
def bMax (as : List AV) (A : AH) : Res AV := match as with
  | [.int i, .int j] => .ok (.int (if j > i then j else i)) A
  | [a] => match (sq? a A).bind intsA with
    | some (i :: is) => .ok (.int (maxI (i :: is))) A
    | _ => .bad
  | _ => .bad
def bList (as : List AV) (A : AH) : Res AV := match as with
  | [.tup xs] => .ok (.ref A.length) (A ++ [.lst xs])
  | [a] => match sq? a A with
    | some xs => .ok (.ref A.length) (A ++ [.lst xs])
    | none => .bad
  | _ => .bad
def bTuple (as : List AV) (A : AH) : Res AV := match as with
  | [.tup xs] => .ok (.tup xs) A
  | [a] => match sq? a A with
    | some xs => .ok (.tup xs) A
    | none => .bad
  | _ => .bad
section
variable {R : Rc} {X : Cx}
theorem vrs1 {ι : List Addr} {H : Hp} {a : AV} {xs : List V} (h : VRs R ι H [a] xs) : ∃ x, xs = [x] ∧ VR R ι H a x := by
  unfold VRs at h
  obtain ⟨v, r, rfl, q, t⟩ := h
  unfold VRs at t
  subst t
  exact ⟨v, rfl, q⟩
theorem vrs2 {ι : List Addr} {H : Hp} {a b : AV} {xs : List V} (h : VRs R ι H [a, b] xs) : ∃ x y, xs = [x, y] ∧ VR R ι H a x ∧ VR R ι H b y := by
  unfold VRs at h
  obtain ⟨v, r, rfl, q, t⟩ := h
  obtain ⟨y, rfl, q2⟩ := vrs1 t
  exact ⟨v, y, rfl, q, q2⟩
theorem vrs0 {ι : List Addr} {H : Hp} {xs : List V} (h : VRs R ι H [] xs) : xs = [] := by unfold VRs at h; exact h
theorem call_lenD1 : CallR X (.builtin "len") (fun xs H Q => ∃ a kvs, xs = [.ref a] ∧ H a = some (.dK kvs) ∧ Q (.int kvs.length) H) := by
  intro pins s σ H xs us Q I r h
  obtain ⟨a, kvs, rfl, e, q⟩ := h
  obtain ⟨u, rfl, r1⟩ := vals1 r
  cases r1
  exact d_len I (.inl e) fun t s' I' => ⟨.int _, H, I', ⟨_, rfl⟩, q⟩
theorem bLen_s (hK : X.K = R.K) (hw : X.w = R.w) (hg : GdOk R) : ∃ r, CallR X (.builtin "len") r ∧ SimC R r bLen := ⟨_, call_len.or (call_lenD1.or call_lenKd), fun as xs H ι A Q E M r q => by
  unfold bLen at q
  split at q
  · rename_i s
    obtain ⟨x, rfl, r1⟩ := vrs1 r
    split at q
    · rename_i hl
      rw [vr_str r1]
      exact .inl ⟨.str s, s.length, rfl, ⟨hl, rfl⟩, q.here M mk_int⟩
    · exact False.elim q
  · rename_i ys
    obtain ⟨x, rfl, r1⟩ := vrs1 r
    obtain ⟨p, vs, rfl, h1, v1⟩ := vr_tup r1
    exact .inl ⟨.ref p, vs.length, rfl, .inr ⟨vs, by rw [hK]; exact h1, rfl⟩, q.here M (by rw [v1.length]; exact mk_int)⟩
  · obtain ⟨x, rfl, r1⟩ := vrs1 r
    split at q
    · rename_i ys e
      obtain ⟨p, vs, rfl, h1, v1⟩ := sq_rd M e r1
      exact .inl ⟨.ref p, vs.length, rfl, .inl ⟨vs, by rw [hK]; exact h1, rfl⟩, q.here M (by rw [v1.length]; exact mk_int)⟩
    · split at q
      · obtain ⟨p, hp, rfl⟩ := vr_ref r1
        split at q
        · rename_i kvs e
          obtain ⟨vs, h1, v1⟩ := dct_rd M e hp
          exact .inr (.inl ⟨p, vs, rfl, h1, q.here M (by rw [v1.length]; exact mk_int)⟩)
        · exact False.elim q
      · split at q
        · rename_i n kvs _ _ _ hc
          rw [Bool.and_eq_true, decide_eq_true_eq] at hc
          unfold VR at r1
          obtain ⟨p, h1, h2, rfl⟩ := r1
          obtain ⟨es, m, D, hz, _⟩ := (hg n kvs p h2 h1).2.2 hc.1
          exact .inr (.inr ⟨p, es, m, rfl, by rw [hK, hw]; exact D, by rw [hz]; exact hc.2, q.here M (by rw [hz]; exact mk_int)⟩)
        · exact False.elim q
      · exact False.elim q
  · exact False.elim q⟩
theorem bInt_s : ∃ r, CallR X (.type "int") r ∧ SimC R r bInt := ⟨_, call_int1, fun as xs H ι A Q E M r q => by
  unfold bInt at q
  split at q
  · obtain ⟨x, rfl, r1⟩ := vrs1 r
    rw [vr_int r1]
    exact .inl ⟨_, rfl, q.here M mk_int⟩
  · obtain ⟨x, rfl, r1⟩ := vrs1 r
    rw [vr_bl r1]
    exact .inr ⟨_, rfl, q.here M mk_int⟩
  · exact False.elim q⟩
theorem bAbs_s : ∃ r, CallR X (.builtin "abs") r ∧ SimC R r bAbs := ⟨_, call_abs, fun as xs H ι A Q E M r q => by
  unfold bAbs at q
  split at q
  · obtain ⟨x, rfl, r1⟩ := vrs1 r
    rw [vr_int r1]
    exact ⟨_, rfl, q.here M mk_int⟩
  · exact False.elim q⟩
theorem intsA_ok {ι : List Addr} {H : Hp} : ∀ {as : List AV} {xs : List V} {is : List Int}, intsA as = some is → VRs R ι H as xs → xs = is.map V.int
  | [], _, _, h, r => by unfold intsA at h; cases h; exact vrs0 r
  | a :: as, _, _, h, r => by
    unfold VRs at r
    obtain ⟨v, t, rfl, r1, r2⟩ := r
    cases a with
    | int i =>
      unfold intsA at h
      cases e : intsA as with
      | none => rw [e] at h; cases h
      | some js =>
        rw [e] at h
        cases h
        rw [vr_int r1, intsA_ok e r2]
        rfl
    | _ => unfold intsA at h; cases h
theorem minI_spec : ∀ {is : List Int}, is ≠ [] → minI is ∈ is ∧ ∀ y ∈ is, minI is ≤ y
  | [], h => absurd rfl h
  | [i], _ => ⟨by simp [minI], fun y hy => by simp [minI] at hy ⊢; omega⟩
  | i :: j :: is, _ => by
    obtain ⟨h1, h2⟩ := minI_spec (is := j :: is) (by simp)
    have e : minI (i :: j :: is) = if minI (j :: is) < i then minI (j :: is) else i := rfl
    rw [e]
    by_cases h : minI (j :: is) < i
    · rw [if_pos h]
      exact ⟨List.mem_cons_of_mem _ h1, fun y hy => by
        rcases List.mem_cons.mp hy with rfl | hy
        · omega
        · exact h2 y hy⟩
    · rw [if_neg h]
      exact ⟨List.mem_cons_self, fun y hy => by
        rcases List.mem_cons.mp hy with rfl | hy
        · omega
        · have := h2 y hy; omega⟩
theorem maxI_spec : ∀ {is : List Int}, is ≠ [] → maxI is ∈ is ∧ ∀ y ∈ is, y ≤ maxI is
  | [], h => absurd rfl h
  | [i], _ => ⟨by simp [maxI], fun y hy => by simp [maxI] at hy ⊢; omega⟩
  | i :: j :: is, _ => by
    obtain ⟨h1, h2⟩ := maxI_spec (is := j :: is) (by simp)
    have e : maxI (i :: j :: is) = if i < maxI (j :: is) then maxI (j :: is) else i := rfl
    rw [e]
    by_cases h : i < maxI (j :: is)
    · rw [if_pos h]
      exact ⟨List.mem_cons_of_mem _ h1, fun y hy => by
        rcases List.mem_cons.mp hy with rfl | hy
        · omega
        · exact h2 y hy⟩
    · rw [if_neg h]
      exact ⟨List.mem_cons_self, fun y hy => by
        rcases List.mem_cons.mp hy with rfl | hy
        · omega
        · have := h2 y hy; omega⟩
theorem bMin_s (hK : X.K = R.K) (hc : X.calm = true) : ∃ r, CallR X (.builtin "min") r ∧ SimC R r bMin := ⟨_, (call_min2 hc).or (cr_min hc), fun as xs H ι A Q E M r q => by
  unfold bMin at q
  split at q
  · obtain ⟨x, y, rfl, r1, r2⟩ := vrs2 r
    rw [vr_int r1, vr_int r2]
    exact .inl ⟨_, _, rfl, q.here M mk_int⟩
  · rename_i as0 a
    obtain ⟨x, rfl, r1⟩ := vrs1 r
    split at q
    · rename_i i is e
      cases e0 : sq? a A with
      | none => rw [e0] at e; cases e
      | some ys =>
        rw [e0] at e
        simp only [Option.bind_some] at e
        obtain ⟨p, vs, rfl, h1, v1⟩ := sq_rd M e0 r1
        rw [intsA_ok e v1] at h1
        refine .inr ⟨p, i :: is, rfl, by rw [hK]; exact h1, by simp, fun m hm hle => ?_⟩
        obtain ⟨k1, k2⟩ := minI_spec (is := i :: is) (by simp)
        have e3 : m = minI (i :: is) := Int.le_antisymm (hle _ k1) (k2 _ hm)
        rw [e3]
        exact q.here M mk_int
    · exact False.elim q
  · exact False.elim q⟩
theorem bMax_s (hK : X.K = R.K) (hc : X.calm = true) : ∃ r, CallR X (.builtin "max") r ∧ SimC R r bMax := ⟨_, (call_max2 hc).or (cr_max hc), fun as xs H ι A Q E M r q => by
  unfold bMax at q
  split at q
  · obtain ⟨x, y, rfl, r1, r2⟩ := vrs2 r
    rw [vr_int r1, vr_int r2]
    exact .inl ⟨_, _, rfl, q.here M mk_int⟩
  · rename_i as0 a
    obtain ⟨x, rfl, r1⟩ := vrs1 r
    split at q
    · rename_i i is e
      cases e0 : sq? a A with
      | none => rw [e0] at e; cases e
      | some ys =>
        rw [e0] at e
        simp only [Option.bind_some] at e
        obtain ⟨p, vs, rfl, h1, v1⟩ := sq_rd M e0 r1
        rw [intsA_ok e v1] at h1
        refine .inr ⟨p, i :: is, rfl, by rw [hK]; exact h1, by simp, fun m hm hle => ?_⟩
        obtain ⟨k1, k2⟩ := maxI_spec (is := i :: is) (by simp)
        have e3 : m = maxI (i :: is) := Int.le_antisymm (k2 _ hm) (hle _ k1)
        rw [e3]
        exact q.here M mk_int
    · exact False.elim q
  · exact False.elim q⟩
theorem bList_s (hK : X.K = R.K) : ∃ r, CallR X (.type "list") r ∧ SimC R r bList := ⟨_, call_list_of, fun as xs H ι A Q E M r q => by
  unfold bList at q
  split at q
  · obtain ⟨x, rfl, r1⟩ := vrs1 r
    obtain ⟨p, vs, rfl, h1, v1⟩ := vr_tup r1
    exact ⟨p, vs, rfl, .inr (by rw [hK]; exact h1), q.lstNew M v1⟩
  · obtain ⟨x, rfl, r1⟩ := vrs1 r
    split at q
    · rename_i ys e
      obtain ⟨p, vs, rfl, h1, v1⟩ := sq_rd M e r1
      exact ⟨p, vs, rfl, .inl (by rw [hK]; exact h1), q.lstNew M v1⟩
    · exact False.elim q
  · exact False.elim q⟩
theorem bTuple_s (hK : X.K = R.K) : ∃ r, CallR X (.type "tuple") r ∧ SimC R r bTuple := ⟨_, call_tuple_of, fun as xs H ι A Q E M r q => by
  unfold bTuple at q
  split at q
  · obtain ⟨x, rfl, r1⟩ := vrs1 r
    obtain ⟨p, vs, rfl, h1, v1⟩ := vr_tup r1
    exact ⟨p, vs, rfl, .inr ⟨by rw [hK]; exact h1, q.here M (mk_tup h1 v1)⟩⟩
  · obtain ⟨x, rfl, r1⟩ := vrs1 r
    split at q
    · rename_i ys e
      obtain ⟨p, vs, rfl, h1, v1⟩ := sq_rd M e r1
      exact ⟨p, vs, rfl, .inl ⟨by rw [hK]; exact h1, q.tupNew M v1⟩⟩
    · exact False.elim q
  · exact False.elim q⟩
end
end Sh

set_option Elab.async false
set_option linter.all false
set_option maxRecDepth 100000
set_option maxHeartbeats 2000000
namespace Sh
open PySem L2 PyProof.Rows

/-! ### walks -/
structure Walk where
  n : Nat
  get : Nat → AH → Option AV
  stop : AH → Bool
abbrev IF := LSt → AH → Res Walk
def wPure (xs : List AV) : Walk := ⟨xs.length, fun i _ => xs[i]?, fun _ => true⟩
def wLst (n : Nat) (xs : List AV) : Walk := ⟨xs.length, fun i A => (A.lst? n).bind fun ys => ys[i]?, fun A => match A.lst? n with | some ys => ys.length == xs.length | none => false⟩
def rangeA (lo : Int) (n : Nat) : List AV := (List.range n).map fun (i : Nat) => AV.int (lo + (i : Int))
def signsA (x : Str) : List AV := x.cps.toList.map fun c => AV.str ⟨#[c]⟩
/-- the walk is that of the iterator J, from H on -/
structure WR (R : Rc) (ι : List Addr) (H : Hp) (w : Walk) (J : It) : Prop where
  go : ∀ (i : Nat) (ι' : List Addr) (H' : Hp) (A : AH) (x : AV), Up R ι ι' H H' → Emb R ι' A H' → i < w.n → w.get i A = some x →
    J.go i H' ∧ ∀ y H2, J.yld i H' y H2 → Up R ι' ι' H' H2 ∧ Emb R ι' A H2 ∧ VR R ι' H2 x y
  stop : ∀ (ι' : List Addr) (H' : Hp) (A : AH), Up R ι ι' H H' → Emb R ι' A H' → w.stop A = true → J.stop w.n H'
def SI (R : Rc) (X : Cx) (W : WX) (tg e : Expr) (f : IF) : Prop := ∃ t, PI X tg e t ∧ Sim R (WR R) W t f
/-- values that are walked -/
def asWalk (a : AV) (A : AH) : Res Walk := match a with
  | .tup xs => .ok (wPure xs) A
  | .fl xs => .ok (wPure xs) A
  | .ref n => match A.lst? n with
    | some xs => .ok (wLst n xs) A
    | none => .bad
  | .str x => .ok (wPure (signsA x)) A
  | _ => .bad
def iVal (f : EF) : IF := fun ℓ A => (f ℓ A).bind asWalk
/-- a number of a word, told so that an open term is not unrolled -/
def w62 (i : Int) : Bool := Nat.blt i.toNat 4611686018427387904 && Nat.ble (-i).toNat 4611686018427387904
theorem w62_ok {i : Int} (h : w62 i = true) : -(2 ^ 62) ≤ i ∧ i < 2 ^ 62 := by
  unfold w62 at h
  rw [Bool.and_eq_true] at h
  have h1 : i.toNat < 4611686018427387904 := Nat.le_of_ble_eq_true h.1
  have h2 : (-i).toNat ≤ 4611686018427387904 := Nat.le_of_ble_eq_true h.2
  omega
theorem w62_of {i : Int} (h : -(2 ^ 62) ≤ i ∧ i < 2 ^ 62) : w62 i = true := by
  unfold w62
  rw [Bool.and_eq_true]
  exact ⟨Nat.ble_eq_true_of_le (by show i.toNat < _; omega), Nat.ble_eq_true_of_le (by omega)⟩
def iRange (f : AF) : IF := fun ℓ A => (f ℓ A).bind fun as A => match as with
  | [.int j] => if w62 j then .ok (wPure (rangeA 0 j.toNat)) A else .bad
  | [.int i, .int j] => if w62 i && w62 j then .ok (wPure (rangeA i (j - i).toNat)) A else .bad
  | _ => .bad
section
variable {R : Rc} {X : Cx} {W : WX} {ta : TE} {fa : EF} {tg e : Expr}
theorem PI.or {t u : TI} (h1 : PI X tg e t) (h2 : PI X tg e u) : PI X tg e (fun σ H Q => t σ H Q ∨ u σ H Q) :=
  ⟨fun pins s σ H Q I q => q.elim (fun q => h1.run pins s σ H Q I q) fun q => h2.run pins s σ H Q I q⟩
theorem wr_tup {ι : List Addr} {H : Hp} {p : Addr} {xs : List AV} {vs : List V} (hs : SqT R.K H p vs) (r : VRs R ι H xs vs) : WR R ι H (wPure xs) (Itt R.K p) :=
  ⟨fun i ι' H' A x U M hi e => by
    obtain ⟨v, h1, h2⟩ := r.get e
    exact ⟨⟨vs, v, U.tup _ _ hs, h1⟩, fun y H2 ⟨e2, hy⟩ => by
      subst e2
      have h3 := hy vs (U.tup _ _ hs)
      rw [h1] at h3
      cases h3
      exact ⟨Up.refl _ _ _, M, h2.up U⟩⟩,
   fun ι' H' A U M _ => ⟨vs, U.tup _ _ hs, by rw [← r.length]; exact Nat.le_refl _⟩⟩
theorem wr_lst {ι : List Addr} {H : Hp} {p : Addr} {n : Nat} {xs : List AV} (hp : ι[n]? = some p) : WR R ι H (wLst n xs) (Itl R.K p) :=
  ⟨fun i ι' H' A x U M hi e => by
    cases e0 : A.lst? n with
    | none => simp [wLst, e0] at e
    | some ys =>
      simp only [wLst, e0, Option.bind_some] at e
      obtain ⟨vs, h1, v1⟩ := lst_rd M e0 (U.at hp)
      obtain ⟨v, h2, h3⟩ := v1.get e
      exact ⟨⟨vs, v, SqL.of h1, h2⟩, fun y H2 ⟨e2, hy⟩ => by
        subst e2
        have h4 := hy vs (SqL.of h1)
        rw [h2] at h4
        cases h4
        exact ⟨Up.refl _ _ _, M, h3⟩⟩,
   fun ι' H' A U M hs => by
    cases e0 : A.lst? n with
    | none => simp [wLst, e0] at hs
    | some ys =>
      simp only [wLst, e0, beq_iff_eq] at hs
      obtain ⟨vs, h1, v1⟩ := lst_rd M e0 (U.at hp)
      exact ⟨vs, SqL.of h1, by rw [← v1.length, hs]; exact Nat.le_refl _⟩⟩
theorem wr_fl {ι : List Addr} {H : Hp} {p : Addr} {xs : List AV} {vs : List V} (hs : FzL R.K H p vs) (r : VRs R ι H xs vs) : WR R ι H (wPure xs) (Itl R.K p) :=
  ⟨fun i ι' H' A x U M hi e => by
    obtain ⟨v, h1, h2⟩ := r.get e
    exact ⟨⟨vs, v, (hs.up U).sq, h1⟩, fun y H2 ⟨e2, hy⟩ => by
      subst e2
      have h3 := hy vs (hs.up U).sq
      rw [h1] at h3
      cases h3
      exact ⟨Up.refl _ _ _, M, h2.up U⟩⟩,
   fun ι' H' A U M _ => ⟨vs, (hs.up U).sq, by rw [← r.length]; exact Nat.le_refl _⟩⟩
theorem rangeA_get {lo : Int} {n i : Nat} (h : i < n) : (rangeA lo n)[i]? = some (.int (lo + (i : Int))) := by
  unfold rangeA
  rw [List.getElem?_map, List.getElem?_range h]
  rfl
theorem rangeA_length {lo : Int} {n : Nat} : (rangeA lo n).length = n := by
  unfold rangeA
  rw [List.length_map, List.length_range]
theorem wr_rng {ι : List Addr} {H : Hp} {lo : Int} {n : Nat} : WR R ι H (wPure (rangeA lo n)) (Itr lo n) :=
  ⟨fun i ι' H' A x U M hi e => by
    have hn : i < n := by
      have : i < (rangeA lo n).length := hi
      rw [rangeA_length] at this
      exact this
    have e' : (rangeA lo n)[i]? = some x := e
    rw [rangeA_get hn] at e'
    cases e'
    exact ⟨hn, fun y H2 ⟨e2, hy⟩ => by subst e2; subst hy; exact ⟨Up.refl _ _ _, M, mk_int⟩⟩,
   fun ι' H' A U M _ => by show n ≤ (rangeA lo n).length; rw [rangeA_length]; exact Nat.le_refl _⟩
theorem wr_str {ι : List Addr} {H : Hp} {x : Str} : WR R ι H (wPure (signsA x)) (Its x) :=
  ⟨fun i ι' H' A v U M hi e => by
    have e' : (signsA x)[i]? = some v := e
    unfold signsA at e'
    rw [List.getElem?_map] at e'
    cases e1 : x.cps.toList[i]? with
    | none => rw [e1] at e'; cases e'
    | some c =>
      rw [e1] at e'
      cases e'
      have e2 : x.cps[i]? = some c := by rw [← Array.getElem?_toList]; exact e1
      have hi2 : i < x.cps.size := by
        have := (Array.getElem?_eq_some_iff.mp e2).1
        exact this
      refine ⟨hi2, fun y H2 ⟨e3, c', hy, hy2⟩ => ?_⟩
      subst e3
      rw [e2] at hy
      cases hy
      subst hy2
      exact ⟨Up.refl _ _ _, M, mk_str⟩,
   fun ι' H' A U M _ => by
    show x.cps.size ≤ (signsA x).length
    unfold signsA
    rw [List.length_map, Array.length_toList]
    exact Nat.le_refl _⟩
theorem sim_iVal (hK : X.K = R.K) (ha : Sim R (VR R) W ta fa) : Sim R (WR R) W (fun σ H Q => iTup X.K ta σ H Q ∨ iList X.K ta σ H Q ∨ iStr ta σ H Q) (iVal fa) := fun σ ℓ H ι A Q L M q => by
  unfold iVal at q
  cases e : fa ℓ A with
  | bad => rw [e] at q; exact False.elim q
  | exc c fs A1 =>
    rw [e] at q
    refine .inl (ha σ ℓ H ι A _ L M ?_)
    rw [e]
    exact q
  | ok a A1 =>
    rw [e] at q
    cases a with
    | tup xs =>
      refine .inl (ha σ ℓ H ι A _ L M ?_)
      rw [e]
      intro ι1 H1 x U1 M1 r1
      obtain ⟨p, vs, rfl, h1, v1⟩ := vr_tup r1
      exact ⟨p, rfl, ⟨vs, by rw [hK]; exact h1⟩, q ι1 H1 _ U1 M1 (by rw [hK]; exact wr_tup h1 v1)⟩
    | ref n =>
      refine .inr (.inl (ha σ ℓ H ι A _ L M ?_))
      rw [e]
      intro ι1 H1 x U1 M1 r1
      obtain ⟨p, hp, rfl⟩ := vr_ref r1
      simp only [Res.bind, asWalk] at q
      split at q
      · rename_i xs e2
        obtain ⟨vs, h1, v1⟩ := lst_rd M1 e2 hp
        exact ⟨p, rfl, ⟨vs, SqL.of h1⟩, q ι1 H1 _ U1 M1 (by rw [hK]; exact wr_lst hp)⟩
      · exact False.elim q
    | fl xs =>
      refine .inr (.inl (ha σ ℓ H ι A _ L M ?_))
      rw [e]
      intro ι1 H1 x U1 M1 r1
      obtain ⟨p, vs, rfl, h1, v1⟩ := vr_fl r1
      exact ⟨p, rfl, ⟨vs, by rw [hK]; exact h1.sq⟩, q ι1 H1 _ U1 M1 (by rw [hK]; exact wr_fl h1 v1)⟩
    | str s =>
      refine .inr (.inr (ha σ ℓ H ι A _ L M ?_))
      rw [e]
      intro ι1 H1 x U1 M1 r1
      exact ⟨s, vr_str r1, q ι1 H1 _ U1 M1 wr_str⟩
    | _ => exact False.elim q
theorem pi_val (he : PE X e ta) : PI X tg e (fun σ H Q => iTup X.K ta σ H Q ∨ iList X.K ta σ H Q ∨ iStr ta σ H Q) := PI.or (pi_tup he) (PI.or (pi_list he) (pi_str he))
theorem sim_iRange1 {t : TA} {f : AF} (h : Sim R (VRs R) W t f) (h1 : ∀ ℓ A as A', f ℓ A = .ok as A' → as.length = 1) : Sim R (WR R) W (iRng1 t) (iRange f) := fun σ ℓ H ι A Q L M q =>
  h σ ℓ H ι A _ L M (by
    unfold iRange at q
    cases e : f ℓ A with
    | bad => rw [e] at q; exact False.elim q
    | exc c fs A1 => rw [e] at q; exact q
    | ok as A1 =>
      rw [e] at q
      intro ι1 H1 xs U1 M1 r1
      have hl := h1 _ _ _ _ e
      simp only [Res.bind] at q
      split at q
      · rename_i j
        split at q
        · rename_i hj
          obtain ⟨x, rfl, r2⟩ := vrs1 r1
          rw [vr_int r2]
          have hj := w62_ok hj
          exact ⟨j, rfl, hj.1, hj.2, q ι1 H1 _ U1 M1 wr_rng⟩
        · exact False.elim q
      · simp at hl
      · exact False.elim q)
theorem sim_iRange2 {t : TA} {f : AF} (h : Sim R (VRs R) W t f) (h1 : ∀ ℓ A as A', f ℓ A = .ok as A' → as.length = 2) : Sim R (WR R) W (iRng2 t) (iRange f) := fun σ ℓ H ι A Q L M q =>
  h σ ℓ H ι A _ L M (by
    unfold iRange at q
    cases e : f ℓ A with
    | bad => rw [e] at q; exact False.elim q
    | exc c fs A1 => rw [e] at q; exact q
    | ok as A1 =>
      rw [e] at q
      intro ι1 H1 xs U1 M1 r1
      have hl := h1 _ _ _ _ e
      simp only [Res.bind] at q
      split at q
      · simp at hl
      · rename_i i j
        split at q
        · rename_i hj
          obtain ⟨x, y, rfl, r2, r3⟩ := vrs2 r1
          rw [vr_int r2, vr_int r3]
          rw [Bool.and_eq_true] at hj
          have hj1 := w62_ok hj.1
          have hj2 := w62_ok hj.2
          exact ⟨i, j, rfl, ⟨hj1.1, hj1.2, hj2.1, hj2.2⟩, q ι1 H1 _ U1 M1 wr_rng⟩
        · exact False.elim q
      · exact False.elim q)
end
/-! ### reversed -/
def wRev (n : Nat) (k : Nat) : Walk := ⟨k, fun i A => (A.lst? n).bind fun ys => ys[k - 1 - i]?, fun _ => true⟩
def wRevT (xs : List AV) : Walk := ⟨xs.length, fun i _ => xs[xs.length - 1 - i]?, fun _ => true⟩
def iRevF (f : EF) : IF := fun ℓ A => (f ℓ A).bind fun a A => match a with
  | .tup xs => .ok (wRevT xs) A
  | .ref n => (match A.lst? n with
    | some xs => .ok (wRev n xs.length) A
    | none => .bad)
  | _ => .bad
section
variable {R : Rc} {X : Cx} {W : WX}
theorem wr_rev {ι : List Addr} {H : Hp} {p : Addr} {n k : Nat} (hp : ι[n]? = some p) : WR R ι H (wRev n k) (Itv R.K p k) :=
  ⟨fun i ι' H' A x U M hi e => by
    cases e0 : A.lst? n with
    | none => simp [wRev, e0] at e
    | some ys =>
      simp only [wRev, e0, Option.bind_some] at e
      obtain ⟨vs, h1, v1⟩ := lst_rd M e0 (U.at hp)
      obtain ⟨v, h2, h3⟩ := v1.get e
      exact ⟨⟨hi, vs, v, SqL.of h1, h2⟩, fun y H2 ⟨e2, hy⟩ => by
        subst e2
        have h4 := hy vs (SqL.of h1)
        rw [h2] at h4
        cases h4
        exact ⟨Up.refl _ _ _, M, h3⟩⟩,
   fun ι' H' A U M hs => Nat.le_refl _⟩
theorem wr_revT {ι : List Addr} {H : Hp} {p : Addr} {xs : List AV} {vs : List V} (hs : SqT R.K H p vs) (r : VRs R ι H xs vs) : WR R ι H (wRevT xs) (RT.ItvT R.K p vs.length) :=
  ⟨fun i ι' H' A x U M hi e => by
    have e' : xs[xs.length - 1 - i]? = some x := e
    rw [r.length] at e'
    obtain ⟨v, h2, h3⟩ := (r.up U).get e'
    have hs' := U.tup _ _ hs
    exact ⟨⟨by rw [← r.length]; exact hi, vs, v, hs', h2⟩, fun y H2 ⟨e2, hy⟩ => by
      subst e2
      have h4 := hy vs hs'
      rw [h2] at h4
      cases h4
      exact ⟨Up.refl _ _ _, M, h3⟩⟩,
   fun ι' H' A U M _ => by show vs.length ≤ xs.length; rw [r.length]; exact Nat.le_refl _⟩
theorem sim_iRev {t : TE} {f : EF} (hK : X.K = R.K) (h : Sim R (VR R) W t f) : Sim R (WR R) W (RT.iRevA X.K t) (iRevF f) := fun σ ℓ H ι A Q L M q =>
  h σ ℓ H ι A _ L M (q.bind fun a A1 ι1 H1 x U1 M1 r1 q1 => by
    rw [hK]
    cases a with
    | tup xs =>
      obtain ⟨p, vs, rfl, h1, v1⟩ := vr_tup r1
      exact ⟨p, vs, rfl, .inr ⟨h1, q1.here M1 (wr_revT h1 v1)⟩⟩
    | ref n =>
      obtain ⟨p, hp, rfl⟩ := vr_ref r1
      simp only at q1
      cases e : A1.lst? n with
      | none => rw [e] at q1; exact False.elim q1
      | some xs =>
        rw [e] at q1
        obtain ⟨vs, h1, v1⟩ := lst_rd M1 e hp
        refine ⟨p, vs, rfl, .inl ⟨SqL.of h1, ?_⟩⟩
        rw [← v1.length]
        exact q1.here M1 (wr_rev hp)
    | _ => exact False.elim q1)
end

/-! ### statements -/
abbrev GF1 := AV → LSt → AH → Option LSt
def gNm (i : Nat) : GF1 := fun v ℓ _ => some (ℓ.set i (some v))
def SimG (R : Rc) (g : TG) (f : GF1) : Prop := ∀ (v : AV) (x : V) (σ : L2.St) (ℓ ℓ' : LSt) (H : Hp) (ι : List Addr) (A : AH) (Q : L2.St → Hp → Prop), LR R ι H ℓ σ → Emb R ι A H → VR R ι H v x → f v ℓ A = some ℓ' → (∀ σ', LR R ι H ℓ' σ' → Q σ' H) → g x σ H Q
def SG (R : Rc) (X : Cx) (tg : Expr) (f : GF1) : Prop := ∃ g, PG X tg g ∧ SimG R g f
theorem simG_name {R : Rc} {i : Nat} (hx : ∀ y, R.xs ≠ some (i, y)) : SimG R (gName i) (gNm i) := fun v x σ ℓ ℓ' H ι A Q L M r e q => by
  unfold gNm at e
  cases e
  exact q _ (L.set r hx)
/-- a tuple of names -/
def gTp (is : List Nat) : GF1 := fun v ℓ _ => match v with
  | .tup xs => if xs.length = is.length then some ((is.zip xs).foldl (fun ℓ p => ℓ.set p.1 (some p.2)) ℓ) else none
  | _ => none

def sNext : SF := fun ℓ A => .nx ℓ A
def sSeq (f g : SF) : SF := fun ℓ A => match f ℓ A with
  | .nx ℓ' A' => g ℓ' A'
  | r => r
def sExpr (f : EF) : SF := fun ℓ A => (f ℓ A).toS ℓ fun _ A => .nx ℓ A
def sRet (f : EF) : SF := fun ℓ A => (f ℓ A).toS ℓ fun v A => .rt v A
def sRetN : SF := fun _ A => .rt .non A
def sIf (t : TF) (f g : SF) : SF := fun ℓ A => (t ℓ A).toS ℓ fun b A => if b then f ℓ A else g ℓ A
def sSet (i : Nat) (f : EF) : SF := fun ℓ A => (f ℓ A).toS ℓ fun v A => .nx (ℓ.set i (some v)) A
def sBrk : SF := fun ℓ A => .bk ℓ A
def sCnt : SF := fun ℓ A => .ct ℓ A
def forLoop (w : Walk) (tg : GF1) (body : SF) : Nat → Nat → LSt → AH → SRes
  | 0, _, ℓ, A => if w.stop A then .nx ℓ A else .bad
  | m + 1, i, ℓ, A => match w.get i A with
    | none => .bad
    | some x => match tg x ℓ A with
      | none => .bad
      | some ℓ1 => match body ℓ1 A with
        | .nx ℓ' A' => forLoop w tg body m (i + 1) ℓ' A'
        | .ct ℓ' A' => forLoop w tg body m (i + 1) ℓ' A'
        | .bk ℓ' A' => .nx ℓ' A'
        | .rt v A' => .rt v A'
        | .exc c fs ℓ' A' => .exc c fs ℓ' A'
        | .bad => .bad
def sFor (it : IF) (tg : GF1) (body : SF) : SF := fun ℓ A => (it ℓ A).toS ℓ fun w A => forLoop w tg body w.n 0 ℓ A
def whileLoop (t : TF) (body : SF) : Nat → LSt → AH → SRes
  | 0, _, _ => .bad
  | m + 1, ℓ, A => match t ℓ A with
    | .bad => .bad
    | .exc c fs A' => .exc c fs ℓ A'
    | .ok false A' => .nx ℓ A'
    | .ok true A' => match body ℓ A' with
      | .nx ℓ' A' => whileLoop t body m ℓ' A'
      | .ct ℓ' A' => whileLoop t body m ℓ' A'
      | .bk ℓ' A' => .nx ℓ' A'
      | .rt v A' => .rt v A'
      | .exc c fs ℓ' A' => .exc c fs ℓ' A'
      | .bad => .bad
def whileFuel : Nat := 1000000000
def sWhile (t : TF) (body : SF) : SF := fun ℓ A => whileLoop t body whileFuel ℓ A

section
variable {R : Rc} {X : Cx} {W : WX} {ta : TE} {fa : EF} {t u : TS} {f g : SF} {tc : TT} {fc : TF}
theorem simS_next : SimS R W tNext sNext := fun D σ ℓ H ι A L M q => q ι H σ (Up.refl _ _ _) M L
theorem simS_seq (h1 : SimS R W t f) (h2 : SimS R W u g) : SimS R W (tSeq t u) (sSeq f g) := fun D σ ℓ H ι A L M q =>
  h1 { D with nx := u D } σ ℓ H ι A L M (by
    unfold sSeq at q
    cases e : f ℓ A with
    | nx ℓ1 A1 =>
      rw [e] at q
      exact fun ι1 H1 σ1 U1 M1 L1 => h2 D σ1 ℓ1 H1 ι1 A1 L1 M1 (ThenS.up U1 q)
    | rt v A1 => rw [e] at q; exact q
    | bk ℓ1 A1 => rw [e] at q; exact q
    | ct ℓ1 A1 => rw [e] at q; exact q
    | exc c fs ℓ1 A1 => rw [e] at q; exact q
    | bad => rw [e] at q; exact q)
theorem simS_expr (ha : Sim R (VR R) W ta fa) : SimS R W (tDrop ta) (sExpr fa) := fun D σ ℓ H ι A L M q =>
  ha σ ℓ H ι A _ L M (ThenS.ofE L q fun a A1 ι1 H1 x U1 M1 r1 L1 q1 => q1 ι1 H1 σ (Up.refl _ _ _) M1 L1)
theorem simS_ret (ha : Sim R (VR R) W ta fa) : SimS R W (tRet ta) (sRet fa) := fun D σ ℓ H ι A L M q =>
  ha σ ℓ H ι A _ L M (ThenS.ofE L q fun a A1 ι1 H1 x U1 M1 r1 L1 q1 => q1 ι1 H1 x (Up.refl _ _ _) M1 r1)
theorem simS_retN : SimS R W tRetN sRetN := fun D σ ℓ H ι A L M q => q ι H .non (Up.refl _ _ _) M mk_non
theorem simS_brk : SimS R W tBreak sBrk := fun D σ ℓ H ι A L M q => q ι H σ (Up.refl _ _ _) M L
theorem simS_cnt : SimS R W tCont sCnt := fun D σ ℓ H ι A L M q => q ι H σ (Up.refl _ _ _) M L
theorem simS_if (hc : Sim R eqR W tc fc) (h1 : SimS R W t f) (h2 : SimS R W u g) : SimS R W (tIfS tc t u) (sIf fc f g) := fun D σ ℓ H ι A L M q =>
  hc σ ℓ H ι A _ L M (ThenS.ofE (rel := eqR) L q fun a A1 ι1 H1 x U1 M1 r1 L1 q1 => by
    cases r1
    cases a with
    | true => exact h1 D σ ℓ H1 ι1 A1 L1 M1 q1
    | false => exact h2 D σ ℓ H1 ι1 A1 L1 M1 q1)
theorem simS_set {i : Nat} (ha : Sim R (VR R) W ta fa) (hx : ∀ y, R.xs ≠ some (i, y)) : SimS R W (tAsg ta (gName i)) (sSet i fa) := fun D σ ℓ H ι A L M q =>
  ha σ ℓ H ι A _ L M (ThenS.ofE L q fun a A1 ι1 H1 x U1 M1 r1 L1 q1 => q1 ι1 H1 _ (Up.refl _ _ _) M1 (L1.set r1 hx))
theorem simS_for {wi : TI} {it : IF} {tg : TG} {ftg : GF1} (hi : Sim R (WR R) W wi it) (hg : SimG R tg ftg) (hb : SimS R W t f) : SimS R W (tFor wi tg t) (sFor it ftg f) := fun D σ ℓ H ι A L M q =>
  hi σ ℓ H ι A _ L M (ThenS.ofE (rel := WR R) L q fun w A1 ι1 H1 J U1 M1 r1 L1 q1 => by
    refine ⟨fun i m σ' H' => ∃ ι' A' ℓ', Up R ι1 ι' H1 H' ∧ Emb R ι' A' H' ∧ LR R ι' H' ℓ' σ' ∧ i + m = w.n ∧ ThenS R (forLoop w ftg f m i ℓ' A') ι' H' D W, ⟨w.n, ι1, A1, ℓ, Up.refl _ _ _, M1, L1, by omega, q1⟩, ?_⟩
    rintro i m σ' H' ⟨ι', A', ℓ', U', M', L', hn, q'⟩
    cases m with
    | zero =>
      unfold forLoop at q'
      by_cases hs : w.stop A' = true
      · rw [if_pos hs] at q'
        have hi' : i = w.n := by omega
        subst hi'
        exact .inl ⟨r1.stop ι' H' A' U' M' hs, q' ι' H' σ' (Up.refl _ _ _) M' L'⟩
      · rw [if_neg hs] at q'
        exact False.elim q'
    | succ m =>
      unfold forLoop at q'
      cases e1 : w.get i A' with
      | none => rw [e1] at q'; exact False.elim q'
      | some x =>
        rw [e1] at q'
        cases e2 : ftg x ℓ' A' with
        | none => simp only [e2] at q'; exact False.elim q'
        | some ℓ2 =>
          simp only [e2] at q'
          obtain ⟨g1, g2⟩ := r1.go i ι' H' A' x U' M' (by omega) e1
          refine .inr ⟨g1, fun σ3 H3 => ∃ ι3 A3 ℓ3, Up R ι1 ι3 H1 H3 ∧ Emb R ι3 A3 H3 ∧ LR R ι3 H3 ℓ3 σ3 ∧ (i + 1) + m = w.n ∧ ThenS R (forLoop w ftg f m (i + 1) ℓ3 A3) ι3 H3 D W, fun σ3 H3 h3 => ⟨m, Nat.lt_succ_self m, h3⟩, fun y H2 hy => ?_⟩
          obtain ⟨U2, M2, v2⟩ := g2 y H2 hy
          refine hg x y σ' ℓ' ℓ2 H2 ι' A' _ (L'.up U2) M2 v2 e2 fun σ4 L4 => ?_
          refine hb _ σ4 ℓ2 H2 ι' A' L4 M2 ?_
          cases e3 : f ℓ2 A' with
          | nx ℓ5 A5 =>
            simp only [e3] at q'
            exact fun ι5 H5 σ5 U5 M5 L5 => ⟨ι5, A5, ℓ5, (U'.trans U2).trans U5, M5, L5, by omega, ThenS.up (U2.trans U5) q'⟩
          | ct ℓ5 A5 =>
            simp only [e3] at q'
            exact fun ι5 H5 σ5 U5 M5 L5 => ⟨ι5, A5, ℓ5, (U'.trans U2).trans U5, M5, L5, by omega, ThenS.up (U2.trans U5) q'⟩
          | bk ℓ5 A5 =>
            simp only [e3] at q'
            exact fun ι5 H5 σ5 U5 M5 L5 => q' ι5 H5 σ5 (U2.trans U5) M5 L5
          | rt v A5 =>
            simp only [e3] at q'
            exact fun ι5 H5 x5 U5 M5 L5 => q' ι5 H5 x5 (U2.trans U5) M5 L5
          | exc c fs ℓ5 A5 =>
            simp only [e3] at q'
            exact fun ι5 H5 σ5 c5 d5 U5 M5 L5 x5 => q' ι5 H5 σ5 c5 d5 (U2.trans U5) M5 L5 x5
          | bad => simp only [e3] at q'; exact False.elim q')
theorem simS_while (hc : Sim R eqR W tc fc) (hb : SimS R W t f) : SimS R W (tWhile tc t) (sWhile fc f) := fun D σ ℓ H ι A L M q => by
  refine ⟨fun m σ' H' => ∃ ι' A' ℓ', Emb R ι' A' H' ∧ LR R ι' H' ℓ' σ' ∧ ThenS R (whileLoop fc f m ℓ' A') ι' H' D W, ⟨whileFuel, ι, A, ℓ, M, L, q⟩, ?_⟩
  rintro m σ' H' ⟨ι', A', ℓ', M', L', q'⟩
  cases m with
  | zero => exact False.elim q'
  | succ m =>
    unfold whileLoop at q'
    refine hc σ' ℓ' H' ι' A' _ L' M' ?_
    cases e : fc ℓ' A' with
    | bad => simp only [e] at q'; exact q'
    | exc c fs A1 =>
      simp only [e] at q'
      exact fun ι1 H1 c1 d1 U1 M1 x1 => q' ι1 H1 σ' c1 d1 U1 M1 (L'.up U1) x1
    | ok b A1 =>
      cases b with
      | false =>
        simp only [e] at q'
        intro ι1 H1 b U1 M1 hb'
        cases hb'
        exact q' ι1 H1 σ' U1 M1 (L'.up U1)
      | true =>
        simp only [e] at q'
        intro ι1 H1 b U1 M1 hb'
        cases hb'
        show ∃ N : L2.St → Hp → Prop, _
        refine ⟨fun σ3 H3 => ∃ ι3 A3 ℓ3, Emb R ι3 A3 H3 ∧ LR R ι3 H3 ℓ3 σ3 ∧ ThenS R (whileLoop fc f m ℓ3 A3) ι3 H3 D W, fun σ3 H3 h3 => ⟨m, Nat.lt_succ_self m, h3⟩, ?_⟩
        refine hb _ σ' ℓ' H1 ι1 A1 (L'.up U1) M1 ?_
        cases e3 : f ℓ' A1 with
        | nx ℓ5 A5 =>
          simp only [e3] at q'
          exact fun ι5 H5 σ5 U5 M5 L5 => ⟨ι5, A5, ℓ5, M5, L5, ThenS.up (U1.trans U5) q'⟩
        | ct ℓ5 A5 =>
          simp only [e3] at q'
          exact fun ι5 H5 σ5 U5 M5 L5 => ⟨ι5, A5, ℓ5, M5, L5, ThenS.up (U1.trans U5) q'⟩
        | bk ℓ5 A5 =>
          simp only [e3] at q'
          exact fun ι5 H5 σ5 U5 M5 L5 => q' ι5 H5 σ5 (U1.trans U5) M5 L5
        | rt v A5 =>
          simp only [e3] at q'
          exact fun ι5 H5 x5 U5 M5 L5 => q' ι5 H5 x5 (U1.trans U5) M5 L5
        | exc c fs ℓ5 A5 =>
          simp only [e3] at q'
          exact fun ι5 H5 σ5 c5 d5 U5 M5 L5 x5 => q' ι5 H5 σ5 c5 d5 (U1.trans U5) M5 L5 x5
        | bad => simp only [e3] at q'; exact False.elim q'
end
end Sh

set_option Elab.async false
set_option linter.all false
set_option maxRecDepth 100000
set_option maxHeartbeats 2000000
namespace Sh
open PySem L2 PyProof.Rows

/-! ### list comprehensions -/
def wipeA (ℓ : LSt) : List Nat → LSt
  | [] => ℓ
  | v :: vs => (wipeA ℓ vs).set v none
def noX {α : Type} (r : Res α) : Res α := match r with
  | .ok a A => .ok a A
  | _ => .bad
def lcLoop (w : Walk) (tg : GF1) (t : TF) (elt : EF) (ℓ : LSt) : Nat → Nat → List AV → AH → Res (List AV)
  | 0, _, acc, A => if w.stop A then .ok acc A else .bad
  | m + 1, i, acc, A => match w.get i A with
    | none => .bad
    | some x => match tg x ℓ A with
      | none => .bad
      | some ℓ1 => (noX (t ℓ1 A)).bind fun b A => if b then (noX (elt ℓ1 A)).bind fun y A => (if acc.length < sizeLine then lcLoop w tg t elt ℓ m (i + 1) (acc ++ [y]) A else .bad)
          else lcLoop w tg t elt ℓ m (i + 1) acc A
def eLc (it : IF) (tg : GF1) (t : TF) (elt : EF) (vs : List Nat) : EF := fun ℓ A => (it ℓ A).bind fun w A => (lcLoop w tg t elt (wipeA ℓ vs) w.n 0 [] A).bind fun acc A => .ok (.ref A.length) (A ++ [.lst acc])
def tYesF : TF := fun _ A => .ok true A
theorem wipe_in {σ : L2.St} {i : Nat} : ∀ {vs : List Nat}, i ∈ vs → i < σ.length → (wipe σ vs)[i]? = some none
  | [], h, _ => nomatch h
  | v :: vs, h, hl => by
    unfold wipe
    by_cases e : v = i
    · subst e
      rw [List.getElem?_set_self (by rw [wipe_length]; exact hl)]
    · rw [List.getElem?_set_ne e]
      exact wipe_in ((List.mem_cons.mp h).elim (fun z => absurd z.symm e) id) hl
theorem wipe_set {σ : L2.St} {j : Nat} {x : Option V} {vs : List Nat} (h : j ∈ vs) : wipe (σ.set j x) vs = wipe σ vs := by
  apply List.ext_getElem?
  intro i
  by_cases hi : i ∈ vs
  · by_cases hl : i < σ.length
    · rw [wipe_in hi hl, wipe_in hi (by rw [List.length_set]; exact hl)]
    · rw [List.getElem?_eq_none (by rw [wipe_length, List.length_set]; omega), List.getElem?_eq_none (by rw [wipe_length]; omega)]
  · rw [wipe_out hi, wipe_out hi, List.getElem?_set_ne (fun (e : j = i) => hi (by rw [← e]; exact h))]
theorem wipe_wipe {σ : L2.St} {vs : List Nat} : wipe (wipe σ vs) vs = wipe σ vs := by
  apply List.ext_getElem?
  intro i
  by_cases hi : i ∈ vs
  · by_cases hl : i < σ.length
    · rw [wipe_in hi (by rw [wipe_length]; exact hl), wipe_in hi hl]
    · rw [List.getElem?_eq_none (by rw [wipe_length, wipe_length]; omega), List.getElem?_eq_none (by rw [wipe_length]; omega)]
  · rw [wipe_out hi]
theorem wipeA_length (ℓ : LSt) : ∀ vs : List Nat, (wipeA ℓ vs).length = ℓ.length
  | [] => rfl
  | v :: vs => by unfold wipeA; rw [List.length_set, wipeA_length ℓ vs]
theorem wipeA_some {ℓ : LSt} {i : Nat} {x : AV} : ∀ {vs : List Nat}, (wipeA ℓ vs)[i]? = some (some x) → ℓ[i]? = some (some x) ∧ i ∉ vs
  | [], h => ⟨h, by simp⟩
  | v :: vs, h => by
    unfold wipeA at h
    by_cases hi : v = i
    · subst hi
      by_cases hv : v < (wipeA ℓ vs).length
      · rw [List.getElem?_set_self hv] at h; cases h
      · rw [List.getElem?_eq_none (by simpa using hv)] at h; cases h
    · rw [List.getElem?_set_ne hi] at h
      obtain ⟨h1, h2⟩ := wipeA_some h
      exact ⟨h1, by simp only [List.mem_cons, not_or]; exact ⟨fun e => hi e.symm, h2⟩⟩
theorem LR.wipe {R : Rc} {ι : List Addr} {H : Hp} {ℓ : LSt} {σ : L2.St} {vs : List Nat} (L : LR R ι H ℓ σ) (hn : R.xs = none) : LR R ι H (wipeA ℓ vs) (L2.wipe σ vs) :=
  ⟨by rw [wipeA_length, wipe_length]; exact L.1, fun i v e => by
    obtain ⟨h1, h2⟩ := wipeA_some e
    obtain ⟨x, h3, h4⟩ := L.2.1 i v h1
    exact ⟨x, by rw [wipe_out h2]; exact h3, h4⟩, fun i x e => by rw [hn] at e; cases e⟩
/-- a target whose slots are among vs -/
def SimGW (R : Rc) (g : TG) (f : GF1) (vs : List Nat) : Prop := ∀ (v : AV) (x : V) (σ : L2.St) (ℓ ℓ' : LSt) (H : Hp) (ι : List Addr) (A : AH) (Q : L2.St → Hp → Prop), LR R ι H ℓ σ → Emb R ι A H → VR R ι H v x → f v ℓ A = some ℓ' →
  (∀ σ', LR R ι H ℓ' σ' → L2.wipe σ' vs = L2.wipe σ vs → Q σ' H) → g x σ H Q
theorem simGW_name {R : Rc} {i : Nat} {vs : List Nat} (h : i ∈ vs) (hx : ∀ y, R.xs ≠ some (i, y)) : SimGW R (gName i) (gNm i) vs := fun v x σ ℓ ℓ' H ι A Q L M r e q => by
  unfold gNm at e
  cases e
  exact q _ (L.set r hx) (wipe_set h)
/-! tuple targets: names -/
def setAll : List Nat → List AV → LSt → LSt
  | i :: is, v :: vs, ℓ => setAll is vs (ℓ.set i (some v))
  | _, _, ℓ => ℓ
def gTn (is : List Nat) : GF1 := fun v ℓ _ => match v with
  | .tup xs => if xs.length = is.length then some (setAll is xs ℓ) else none
  | _ => none
def gNs : List Nat → TGs
  | [] => gNil
  | i :: is => gCons (gName i) (gNs is)
theorem gNs_ok {R : Rc} {ws : List Nat} (hxs : R.xs = none) {ι : List Addr} {H : Hp} {Q : L2.St → Hp → Prop} : ∀ {is : List Nat} {vs : List AV} {xs : List V} {σ : L2.St} {ℓ : LSt}, (∀ i ∈ is, i ∈ ws) → vs.length = is.length → LR R ι H ℓ σ → VRs R ι H vs xs →
    (∀ σ', LR R ι H (setAll is vs ℓ) σ' → L2.wipe σ' ws = L2.wipe σ ws → Q σ' H) → gNs is xs σ H Q
  | [], [], xs, σ, ℓ, _, _, L, v, q => ⟨vrs0 v, q σ L rfl⟩
  | [], _ :: _, _, _, _, _, hl, _, _, _ => by cases hl
  | _ :: _, [], _, _, _, _, hl, _, _, _ => by cases hl
  | i :: is, w :: vs, xs, σ, ℓ, hw, hl, L, v, q => by
    unfold VRs at v
    obtain ⟨y, ys, rfl, v1, v2⟩ := v
    refine ⟨y, ys, rfl, ?_⟩
    have hi := hw i List.mem_cons_self
    refine gNs_ok hxs (σ := σ.set i (some y)) (ℓ := ℓ.set i (some w)) (fun j hj => hw j (List.mem_cons_of_mem _ hj)) (by simpa using hl) (L.set v1 fun z e => by rw [hxs] at e; cases e) v2 fun σ' L' e => q σ' L' ?_
    rw [e]
    exact wipe_set hi
theorem simGW_tup {R : Rc} {is ws : List Nat} (h : ∀ i ∈ is, i ∈ ws) (hxs : R.xs = none) : SimGW R (gTup R.K is.length (gNs is)) (gTn is) ws := fun v x σ ℓ ℓ' H ι A Q L M r e q => by
  unfold gTn at e
  cases v with
  | tup xs =>
    simp only at e
    split at e
    · rename_i hl
      cases e
      obtain ⟨p, vs, rfl, h3, h4⟩ := vr_tup r
      exact ⟨p, vs, rfl, h3, by rw [← h4.length]; exact hl, gNs_ok hxs h hl L h4 q⟩
    · cases e
  | _ => cases e
def WF : WX := fun _ _ _ _ => False
section
variable {R : Rc} {X : Cx} {W : WX}
theorem Then.noX {α β : Type} {rel : List Addr → Hp → α → β → Prop} {r : Res α} {ι : List Addr} {H : Hp} {Q : β → Hp → Prop} {E E' : XK} (h : Then R rel (Sh.noX r) ι H Q E) : Then R rel r ι H Q E' := by
  cases r with
  | ok a A => exact h
  | exc c fs A => exact False.elim h
  | bad => exact h
mutual
theorem VR.kp {ι : List Addr} {H H' : Hp} (ht : ∀ p xs, SqT R.K H p xs → SqT R.K H' p xs) (hf : ∀ p ob u, H p = some (.frz ob u) → H' p = some (.frz ob u)) : ∀ {a : AV} {x : V}, VR R ι H a x → VR R ι H' a x
  | .non, _, h => by unfold VR at h ⊢; exact h
  | .bl _, _, h => by unfold VR at h ⊢; exact h
  | .int _, _, h => by unfold VR at h ⊢; exact h
  | .str _, _, h => by unfold VR at h ⊢; exact h
  | .ty _, _, h => by unfold VR at h ⊢; exact h
  | .cls _, _, h => by unfold VR at h ⊢; exact h
  | .ref n, _, h => by unfold VR at h ⊢; exact h
  | .tup xs, _, h => by
    unfold VR at h ⊢
    obtain ⟨p, vs, e, q, r⟩ := h
    exact ⟨p, vs, e, ht _ _ q, VRs.kp ht hf r⟩
  | .fl xs, _, h => by
    unfold VR at h ⊢
    obtain ⟨p, vs, e, q, r⟩ := h
    refine ⟨p, vs, e, ?_, VRs.kp ht hf r⟩
    rcases q with ⟨ob, q⟩ | q
    · exact .inl ⟨ob, hf _ _ _ q⟩
    · exact .inr q
  | .gd _ _, _, h => by unfold VR at h ⊢; exact h
theorem VRs.kp {ι : List Addr} {H H' : Hp} (ht : ∀ p xs, SqT R.K H p xs → SqT R.K H' p xs) (hf : ∀ p ob u, H p = some (.frz ob u) → H' p = some (.frz ob u)) : ∀ {as : List AV} {xs : List V}, VRs R ι H as xs → VRs R ι H' as xs
  | [], _, h => by unfold VRs at h ⊢; exact h
  | a :: as, _, h => by
    unfold VRs at h ⊢
    obtain ⟨v, r, e, q, t⟩ := h
    exact ⟨v, r, e, VR.kp ht hf q, VRs.kp ht hf t⟩
end
theorem FR.kp {ι : List Addr} {H H' : Hp} (ht : ∀ p xs, SqT R.K H p xs → SqT R.K H' p xs) (hf : ∀ p ob u, H p = some (.frz ob u) → H' p = some (.frz ob u)) : ∀ {as : List (Str × AV)} {xs : List (Str × V)}, FR R ι H as xs → FR R ι H' as xs
  | [], _, h => by unfold FR at h ⊢; exact h
  | (f, a) :: as, _, h => by
    unfold FR at h ⊢
    obtain ⟨v, r, e, q, t⟩ := h
    exact ⟨v, r, e, VR.kp ht hf q, FR.kp ht hf t⟩
theorem KR.kp {ι : List Addr} {H H' : Hp} (ht : ∀ p xs, SqT R.K H p xs → SqT R.K H' p xs) (hf : ∀ p ob u, H p = some (.frz ob u) → H' p = some (.frz ob u)) : ∀ {as : List (Key × AV)} {xs : List (Key × V)}, KR R ι H as xs → KR R ι H' as xs
  | [], _, h => by unfold KR at h ⊢; exact h
  | (f, a) :: as, _, h => by
    unfold KR at h ⊢
    obtain ⟨v, r, e, q, t⟩ := h
    exact ⟨v, r, e, VR.kp ht hf q, KR.kp ht hf t⟩
theorem OR.kp {ι : List Addr} {H H' : Hp} {a : Addr} {o : AO} (ht : ∀ p xs, SqT R.K H p xs → SqT R.K H' p xs) (hf : ∀ p ob u, H p = some (.frz ob u) → H' p = some (.frz ob u)) (k : ∀ w, H a = some w → H' a = some w) (h : OR R ι H a o) : OR R ι H' a o := by
  cases o with
  | lst xs => obtain ⟨vs, e, r⟩ := h; exact ⟨vs, k _ e, r.kp ht hf⟩
  | dct kvs => obtain ⟨vs, e, r⟩ := h; exact ⟨vs, k _ e, r.kp ht hf⟩
  | ins c fs => obtain ⟨C, dx, fs', e1, e, r⟩ := h; exact ⟨C, dx, fs', e1, k _ e, r.kp ht hf⟩
theorem sim_lc {wi : TI} {it : IF} {tg : TG} {ftg : GF1} {tt : TT} {ft : TF} {te : TE} {fe : EF} {vs : List Nat} (hi : Sim R (WR R) W wi it) (hg : SimGW R tg ftg vs) (ht : Sim R eqR WF tt ft) (he : Sim R (VR R) WF te fe) (hxs : R.xs = none) :
    Sim R (VR R) W (tLc wi tg tt te vs) (eLc it ftg ft fe vs) := fun σ ℓ H ι A Q L M q =>
  hi σ ℓ H ι A _ L M (q.bind fun w A1 ι1 H1 J U1 M1 r1 q1 => by
    intro D hD
    have nD : D ∉ ι1 := M1.new hD
    have UD : Up R ι1 ι1 H1 (upd H1 D (.lst [])) := Up.laid hD
    -- the word between two turns
    let Wd : Nat → Nat → Hp → Prop := fun i m H' => ∃ ι' A' acc accV, Up R ι1 ι' H1 H' ∧ Emb R ι' A' H' ∧ D ∉ ι' ∧ H' D = some (.lst accV) ∧ VRs R ι' H' acc accV ∧ i + m = w.n ∧
      Then R (VR R) ((lcLoop w ftg ft fe (wipeA ℓ vs) m i acc A').bind fun acc A => .ok (.ref A.length) (A ++ [.lst acc])) ι1 H1 Q (fun c d H' => W c d σ H')
    have keepD : ∀ {ι2 ι3 : List Addr} {H2 H3 : Hp} {accV : List V}, Up R ι2 ι3 H2 H3 → D ∉ ι2 → H2 D = some (.lst accV) → D ∉ ι3 ∧ H3 D = some (.lst accV) := fun {ι2 ι3 H2 H3 accV} U n h => by
      refine ⟨fun hm => ?_, U.oth D _ h n⟩
      obtain ⟨τ, e, f⟩ := U.pre
      rw [e] at hm
      rcases List.mem_append.mp hm with z | z
      · exact n z
      · rw [f D z] at h
        cases h
    refine ⟨Wd, ⟨w.n, ι1, A1, [], [], UD, M1.laid hD, nD, upd_same, by unfold VRs; rfl, by omega, q1⟩, ?_⟩
    rintro i m H' ⟨ι', A', acc, accV, U', M', n', hD', ra, hn, q'⟩
    cases m with
    | zero =>
      unfold lcLoop at q'
      by_cases hs : w.stop A' = true
      · rw [if_pos hs] at q'
        have hi' : i = w.n := by omega
        subst hi'
        refine .inl ⟨r1.stop ι' H' A' U' M' hs, ?_⟩
        have U2 : Up R ι1 (ι' ++ [D]) H1 H' := by
          have U3 := U'
          obtain ⟨τ, e, f⟩ := U3.pre
          refine ⟨⟨τ ++ [D], by rw [e, List.append_assoc], fun b hb => ?_⟩, U3.tup, U3.frz, U3.xd, U3.oth, U3.there⟩
          rcases List.mem_append.mp hb with z | z
          · exact f b z
          · rw [List.mem_singleton.mp z]; exact hD
        refine q' (ι' ++ [D]) H' _ U2 (M'.name n' ⟨accV, hD', ra.pre ⟨[D], rfl⟩⟩) ?_
        refine mk_ref ?_
        rw [← M'.len]
        simp
      · rw [if_neg hs] at q'
        exact False.elim q'
    | succ m =>
      unfold lcLoop at q'
      cases e1 : w.get i A' with
      | none => simp only [e1] at q'; exact False.elim q'
      | some x =>
        simp only [e1] at q'
        cases e2 : ftg x (wipeA ℓ vs) A' with
        | none => simp only [e2] at q'; exact False.elim q'
        | some ℓ2 =>
          simp only [e2] at q'
          obtain ⟨g1, g2⟩ := r1.go i ι' H' A' x U' M' (by omega) e1
          refine .inr ⟨g1, fun H3 => Wd (i + 1) m H3, fun H3 h3 => ⟨m, Nat.lt_succ_self m, h3⟩, fun y H2 hy => ?_⟩
          obtain ⟨U2, M2, v2⟩ := g2 y H2 hy
          obtain ⟨n2, hD2⟩ := keepD U2 n' hD'
          have L2' : LR R ι' H2 (wipeA ℓ vs) (L2.wipe σ vs) := ((L.up U1).up (U'.trans U2)).wipe hxs
          refine hg x y (L2.wipe σ vs) (wipeA ℓ vs) ℓ2 H2 ι' A' _ L2' M2 v2 e2 fun σ4 L4 hw4 => ⟨by rw [hw4, wipe_wipe], ?_⟩
          -- the test
          cases e3 : ft ℓ2 A' with
          | bad => simp only [e3, noX, Res.bind] at q'; exact False.elim q'
          | exc c fs A5 => simp only [e3, noX, Res.bind] at q'; exact False.elim q'
          | ok b A5 =>
            refine ht σ4 ℓ2 H2 ι' A' _ L4 M2 ?_
            rw [e3]
            intro ι5 H5 b5 U5 M5 hb5
            cases hb5
            obtain ⟨n5, hD5⟩ := keepD U5 n2 hD2
            have ra5 := (ra.up U2).up U5
            simp only [e3, noX, Res.bind] at q'
            cases b with
            | false =>
              simp only [Bool.false_eq_true, if_false] at q' ⊢
              exact ⟨ι5, A5, acc, accV, (U'.trans U2).trans U5, M5, n5, hD5, ra5, by omega, q'⟩
            | true =>
              simp only [if_true] at q' ⊢
              cases e6 : fe ℓ2 A5 with
              | bad => simp only [e6, Sh.noX, Res.bind] at q'; exact False.elim q'
              | exc c fs A6 => simp only [e6, Sh.noX, Res.bind] at q'; exact False.elim q'
              | ok z A6 =>
                refine he σ4 ℓ2 H5 ι5 A5 _ (L4.up U5) M5 ?_
                rw [e6]
                intro ι6 H6 y6 U6 M6 r6
                obtain ⟨n6, hD6⟩ := keepD U6 n5 hD5
                have ra6 := ra5.up U6
                simp only [e6, Sh.noX, Res.bind] at q'
                by_cases hl : acc.length < sizeLine
                · rw [if_pos hl] at q'
                  refine ⟨accV, hD6, by rw [← ra6.length]; exact hl, ?_⟩
                  -- the list that is made is not named: all is as it was
                  have U8 := (U'.trans U2).trans (U5.trans U6)
                  have V8 : Up R ι6 ι6 H6 (upd H6 D (.lst (accV ++ [y6]))) ∨ True := .inr True.intro
                  have tupK : ∀ p xs, SqT R.K H6 p xs → SqT R.K (upd H6 D (.lst (accV ++ [y6]))) p xs := fun p xs h9 => by
                    rcases h9 with (h9 | ⟨ob, h9⟩) | h9
                    · exact .inl (.inl (by rw [upd_ne (fun z => by subst z; rw [hD6] at h9; cases h9)]; exact h9))
                    · exact .inl (.inr ⟨ob, by rw [upd_ne (fun z => by subst z; rw [hD6] at h9; cases h9)]; exact h9⟩)
                    · exact .inr h9
                  have frzK : ∀ p ob u, H6 p = some (.frz ob u) → upd H6 D (.lst (accV ++ [y6])) p = some (.frz ob u) := fun p ob u h9 => by
                    rw [upd_ne (fun z => by subst z; rw [hD6] at h9; cases h9)]
                    exact h9
                  have U7 : Up R ι1 ι6 H1 (upd H6 D (.lst (accV ++ [y6]))) := by
                    refine ⟨U8.pre, fun p xs h => tupK p xs (U8.tup p xs h), fun p ob u h => frzK p ob u (U8.frz p ob u h), fun p fs h => ?_, fun p o h nn => ?_, fun p h => ?_⟩
                    · have h9 := U8.xd p fs h
                      rw [upd_ne (fun z => by subst z; rw [hD6] at h9; cases h9)]
                      exact h9
                    · rw [upd_ne (ne_of_none h hD)]
                      exact U8.oth p o h nn
                    · by_cases hp : p = D
                      · subst hp
                        rw [upd_same] at h
                        cases h
                      · rw [upd_ne hp] at h
                        exact U8.there p h
                  -- a change of an unnamed thing: values and named objects stay
                  have V9 : ∀ {v : AV} {x : V}, VR R ι6 H6 v x → VR R ι6 (upd H6 D (.lst (accV ++ [y6]))) v x := fun h => VR.kp tupK frzK h
                  have W9 : ∀ {v : List AV} {x : List V}, VRs R ι6 H6 v x → VRs R ι6 (upd H6 D (.lst (accV ++ [y6]))) v x := fun h => VRs.kp tupK frzK h
                  refine ⟨ι6, A6, acc ++ [z], accV ++ [y6], U7, ⟨M6.len, M6.nd, fun k o a ek ea => OR.kp tupK frzK (fun w hw => by rw [upd_ne (fun z => n6 (by rw [← z]; exact List.mem_of_getElem? ea))]; exact hw) (M6.obj k o a ek ea), R.Jkp tupK frzK (fun p fs h9 => by rw [upd_ne (fun z => by subst z; rw [hD6] at h9; cases h9)]; exact h9) M6.inv⟩, n6, upd_same, (W9 ra6).append (by unfold VRs; exact ⟨y6, [], rfl, V9 r6, by unfold VRs; rfl⟩), by omega, q'⟩
                · rw [if_neg hl] at q'
                  exact False.elim q')
end
end Sh

set_option Elab.async false
set_option linter.all false
set_option maxRecDepth 100000
set_option maxHeartbeats 4000000
/-! calls where no repr is under way: room, promises of defs, the end of a law -/
namespace Sh
open PySem PySem.Spec PyProof.Rows L2
/-- room, and no container is being shown -/
structure Room (k : Nat) (A : Around) : Prop where
  out : L2.Room k A
  gd : A.guards = some []
section
variable {j k : Nat} {A : Around}
theorem Room.mono (r : Room k A) (h : j ≤ k) : Room j A := ⟨r.out.mono h, r.gd⟩
theorem Room.deeper (r : Room (k + 1) A) (env : Env) : Room k (A.deeper env) := ⟨r.out.deeper env, r.gd⟩
theorem Room.in1 (r : Room (k + 1) A) : Room k A.in1 := ⟨r.out.in1, r.gd⟩
theorem make_gd {C : Addr} {us : List Value} {kw : List (Str × Value)} : (A.under (.builtin "type.__call__" ⟨.ref C :: us, kw⟩)).guards = A.guards := by
  simp [Around.under, Code.guards, Code.isGuard, pushGuards_eq, guardIds]
theorem Room.make (r : Room (k + 1) A) (C : Addr) (us : List Value) (kw : List (Str × Value)) : Room k (A.under (.builtin "type.__call__" ⟨.ref C :: us, kw⟩)) :=
  ⟨r.out.make C us kw, by rw [make_gd]; exact r.gd⟩
theorem Room.hd (r : Room k A) : A.handled = none := r.out.hd
theorem Room.dp (r : Room k A) : A.depth + 3 * k + 5 < recursionLimit := r.out.dp
theorem Room.un (r : Room k A) : A.units + 16 * k + 200 < cLine := r.out.un
theorem Room.depth (r : Room k A) : A.depth < recursionLimit := r.out.depth
theorem Room.units (r : Room k A) : A.units + 64 < cLine := r.out.units
theorem Room.units0 (r : Room k A) : A.units < cLine := r.out.units0
end
/-- what is promised of one call -/
def OneCall (P : Program) (w : World) (K : PySem.W.Frag) (mg : Str → Option Value) (base : Heap) (CX : CXT) (k : Nat) (f : Addr) (g : List Value → Shared → Args → Prop) (sp : Sp) : Prop :=
  ∀ (A : Around) (outer : List Env) (s : Shared) (H : Hp) (as : Args) (us : List Value) (vs : List V) (Q : VK) (E : XK),
    Room k A → Env0 P w K mg base A outer s H → g us s as → Vals vs us → sp vs H Q E → codeAny (model P w) A (.call (.ref f) as) (CR CX outer P w H s Q E) s
structure FnOk (P : Program) (w : World) (K : PySem.W.Frag) (mg : Str → Option Value) (base : Heap) (CX : CXT) (k : Nat) (f : Addr) (fd : FuncData) (ps : List Str) (sp : Sp) : Prop where
  len : ∀ vs H Q E, sp vs H Q E → vs.length = ps.length
  run : OneCall P w K mg base CX k f (fun us s as => BindsTo s fd as (ps.zip us)) sp
def FnR (P : Program) (w : World) (K : PySem.W.Frag) (mg : Str → Option Value) (base : Heap) (CX : CXT) (k : Nat) (f : Addr) (sp : Sp) : Prop :=
  OneCall P w K mg base CX k f (fun us _ as => as = ⟨us, []⟩) sp
section
variable {P : Program} {w : World} {K : PySem.W.Frag} {mg : Str → Option Value} {base : Heap} {CX : CXT} {j k : Nat} {f : Addr} {fd : FuncData} {ps : List Str} {sp sp' : Sp}
theorem FnR.mono (F : FnR P w K mg base CX j f sp) (h : j ≤ k) : FnR P w K mg base CX k f sp := fun A o s H as us vs Q E r => F A o s H as us vs Q E (r.mono h)
theorem FnR.imp (F : FnR P w K mg base CX k f sp) (h : ∀ vs H Q E, sp' vs H Q E → sp vs H Q E) : FnR P w K mg base CX k f sp' :=
  fun A o s H as us vs Q E r e0 g rv z => F A o s H as us vs Q E r e0 g rv (h _ _ _ _ z)
theorem FnR.go (F : FnR P w K mg base CX k f sp) {A : Around} {outer : List Env} {s : Shared} {H : Hp} {us : List Value} {vs : List V} {Q : VK} {E : XK} (r : Room k A) (e0 : Env0 P w K mg base A outer s H) (rv : Vals vs us) (z : sp vs H Q E) :
    codeAny (model P w) A (.call (.ref f) ⟨us, []⟩) (CR CX outer P w H s Q E) s := F A outer s H ⟨us, []⟩ us vs Q E r e0 rfl rv z
theorem FnOk.raw {ds : List Value} {dvs : List V} (F : FnOk P w K mg base CX k f fd ps sp) (hb : Binds K fd ps ds) (hd : Vals dvs ds) : FnR P w K mg base CX k f (fun vs H Q E => sp (vs ++ dvs) H Q E) := by
  intro A outer s H as us vs Q E r e0 ea rv z
  subst ea
  have r2 := rv.append hd
  refine F.run A outer s H _ (us ++ ds) _ Q E r e0 (hb s us ?_ ?_) r2 z
  · exact e0.mod.kin.keeps fun b o e => (e0.bs b o e).1
  · rw [← r2.length]
    exact F.len _ _ _ _ z
end
end Sh

set_option Elab.async false
set_option linter.all false
set_option maxRecDepth 100000
set_option maxHeartbeats 2000000
namespace Sh
open PySem L2 PyProof.Rows

section
variable {R : Rc} {X : Cx} {W : WX}
/-- a thing that has no name is filled -/
theorem tup_kp {H : Hp} {K : PySem.W.Frag} {p : Addr} {o o' : HO} (h : H p = some o) (mu : Mut (some o)) : ∀ q xs, SqT K H q xs → SqT K (upd H p o') q xs := fun q xs h9 => by
  have ne : ∀ q u, H q = some u → ¬ Mut (some u) → q ≠ p := fun q u e nm z => by subst z; rw [h] at e; cases e; exact nm mu
  rcases h9 with (h9 | ⟨ob, h9⟩) | h9
  · exact .inl (.inl (by rw [upd_ne (ne _ _ h9 fun z => z)]; exact h9))
  · exact .inl (.inr ⟨ob, by rw [upd_ne (ne _ _ h9 fun z => z)]; exact h9⟩)
  · exact .inr h9
theorem frz_kp {H : Hp} {p : Addr} {o o' : HO} (h : H p = some o) (mu : Mut (some o)) : ∀ q ob u, H q = some (.frz ob u) → upd H p o' q = some (.frz ob u) := fun q ob u h9 => by
  rw [upd_ne (fun z => by subst z; rw [h] at h9; cases h9; exact mu)]
  exact h9
theorem xd_kp {H : Hp} {p : Addr} {o o' : HO} (h : H p = some o) (mu : Mut (some o)) : ∀ q fs, H q = some (.xd fs) → upd H p o' q = some (.xd fs) := fun q fs h9 => by
  rw [upd_ne (fun z => by subst z; rw [h] at h9; cases h9; exact mu)]
  exact h9
theorem Emb.fill {ι : List Addr} {H : Hp} {A : AH} {p : Addr} {o o' : HO} (m : Emb R ι A H) (n : p ∉ ι) (h : H p = some o) (mu : Mut (some o)) : Emb R ι A (upd H p o') :=
  ⟨m.len, m.nd, fun k w a ek ea => OR.kp (tup_kp h mu) (frz_kp h mu) (fun z hz => by rw [upd_ne (fun e => n (by rw [← e]; exact List.mem_of_getElem? ea))]; exact hz) (m.obj k w a ek ea), R.Jkp (tup_kp h mu) (frz_kp h mu) (xd_kp h mu) m.inv⟩
/-- from before the thing was laid -/
theorem Up.fill {ι ι' : List Addr} {H H' : Hp} {p : Addr} {o o' : HO} (u : Up R ι ι' H H') (hp : H p = none) (h : H' p = some o) (mu : Mut (some o)) : Up R ι (ι' ++ [p]) H (L2.upd H' p o') := by
  obtain ⟨τ, e, f⟩ := u.pre
  refine ⟨⟨τ ++ [p], by rw [e, List.append_assoc], fun b hb => ?_⟩, fun q xs z => tup_kp h mu q xs (u.tup q xs z), fun q ob w z => frz_kp h mu q ob w (u.frz q ob w z), fun q fs z => xd_kp h mu q fs (u.xd q fs z), fun q w z nn => ?_, fun q z => ?_⟩
  · rcases List.mem_append.mp hb with z | z
    · exact f b z
    · rw [List.mem_singleton.mp z]; exact hp
  · rw [upd_ne (ne_of_none z hp)]
    exact u.oth q w z nn
  · by_cases hq : q = p
    · subst hq; exact hp
    · rw [upd_ne hq] at z
      exact u.there q z
theorem Up.keepU {ι2 ι3 : List Addr} {H2 H3 : Hp} {p : Addr} {o : HO} (U : Up R ι2 ι3 H2 H3) (n : p ∉ ι2) (h : H2 p = some o) : p ∉ ι3 ∧ H3 p = some o := by
  refine ⟨fun hm => ?_, U.oth p _ h n⟩
  obtain ⟨τ, e, f⟩ := U.pre
  rw [e] at hm
  rcases List.mem_append.mp hm with z | z
  · exact n z
  · rw [f p z] at h
    cases h
end

/-! ### dict displays -/
def pairsF : List (EF × EF) → LSt → AH → Res (List (Key × AV))
  | [], _, A => .ok [] A
  | (fk, fv) :: r, ℓ, A => (fk ℓ A).bind fun k A => (fv ℓ A).bind fun v A => (pairsF r ℓ A).bind fun ps A => match keyOf k with
    | some key => .ok ((key, v) :: ps) A
    | none => .bad
def mergeA (kvs more : List (Key × AV)) : List (Key × AV) := more.foldl (fun acc kv => putA acc kv.1 kv.2) kvs
def eDct (ps : List (EF × EF)) : EF := fun ℓ A => (pairsF ps ℓ A).bind fun kvs A => if kvs.length ≤ 15 then .ok (.ref A.length) (A ++ [.dct (mergeA [] kvs)]) else .bad
def PR (R : Rc) (ι : List Addr) (H : Hp) (kvs : List (Key × AV)) (ps : List (V × V)) : Prop := ∃ kvs', ps = kvs'.map (fun kv => (kV kv.1, kv.2)) ∧ KR R ι H kvs kvs'
section
variable {R : Rc} {X : Cx} {W : WX}
theorem KR.merge {ι : List Addr} {H : Hp} : ∀ {more : List (Key × AV)} {more' : List (Key × V)} {kvs : List (Key × AV)} {kvs' : List (Key × V)}, KR R ι H more more' → KR R ι H kvs kvs' → KR R ι H (mergeA kvs more) (mergeK kvs' more')
  | [], _, _, _, h, k => by unfold KR at h; subst h; exact k
  | (f, a) :: more, _, _, _, h, k => by
    unfold KR at h
    obtain ⟨v, r, rfl, q, t⟩ := h
    exact KR.merge (kvs := putA _ f a) (kvs' := putK _ f v) t (k.put q)
/-- the two lists of pairs, part by part -/
inductive SPs (R : Rc) (W : WX) : List (TE × TE) → List (EF × EF) → Prop
  | nil : SPs R W [] []
  | cons {tk tv : TE} {fk fv : EF} {ts : List (TE × TE)} {fs : List (EF × EF)} : Sim R (VR R) W tk fk → Sim R (VR R) W tv fv → SPs R W ts fs → SPs R W ((tk, tv) :: ts) ((fk, fv) :: fs)
theorem sim_pairs {ts : List (TE × TE)} {fs : List (EF × EF)} (h : SPs R W ts fs) : Sim R (PR R) W (tPairs ts) (pairsF fs) := by
  induction h with
  | nil => exact fun σ ℓ H ι A Q L M q => q.here M ⟨[], rfl, by unfold KR; rfl⟩
  | cons hk hv _ ih =>
    intro σ ℓ H ι A Q L M q
    refine hk σ ℓ H ι A _ L M (q.bind fun a1 A1 ι1 H1 x U1 M1 v1 q1 => hv σ ℓ H1 ι1 A1 _ (L.up U1) M1 (q1.bind fun a2 A2 ι2 H2 y U2 M2 v2 q2 => ih σ ℓ H2 ι2 A2 _ ((L.up U1).up U2) M2 (q2.bind fun a3 A3 ι3 H3 ps U3 M3 v3 q3 => ?_)))
    obtain ⟨kvs', rfl, rk⟩ := v3
    split at q3
    · rename_i key e
      refine q3.here M3 ⟨(key, y) :: kvs', ?_, ?_⟩
      · rw [keyOf_ok e v1]; rfl
      · unfold KR
        exact ⟨y, kvs', rfl, v2.up U3, rk⟩
    · exact False.elim q3
theorem sim_dct {ts : List (TE × TE)} {fs : List (EF × EF)} (h : SPs R W ts fs) : Sim R (VR R) W (tDisp ts) (eDct fs) := fun σ ℓ H ι A Q L M q p hp => by
  have U0 : Up R ι ι H (upd H p (.dK [])) := Up.laid hp
  refine sim_pairs h σ ℓ _ ι A _ (L.up U0) (M.laid hp) ?_
  have n0 : p ∉ ι := M.new hp
  unfold eDct at q
  cases e : pairsF fs ℓ A with
  | bad => rw [e] at q; exact False.elim q
  | exc c gs A1 =>
    rw [e] at q
    exact fun ι1 H1 cls d U1 M1 x1 => q ι1 H1 cls d (U0.trans U1) M1 x1
  | ok kvs A1 =>
    rw [e] at q
    intro ι1 H1 ps U1 M1 ⟨kvs', ep, rk⟩
    obtain ⟨n1, h1⟩ := U1.keepU n0 (upd_same (H := H) (a := p) (o := .dK []))
    refine ⟨h1, kvs', ep, ?_⟩
    simp only [Res.bind] at q
    by_cases hl : kvs.length ≤ 15
    · rw [if_pos hl] at q
      refine ⟨by rw [← rk.length]; exact hl, ?_⟩
      have U2 : Up R ι (ι1 ++ [p]) H (upd H1 p (.dK (mergeK [] kvs'))) := (U0.trans U1).fill hp h1 True.intro
      refine q _ _ _ U2 ((M1.fill n1 h1 True.intro).name n1 ⟨_, upd_same, ?_⟩) (mk_ref (by rw [← M1.len]; simp))
      exact ((rk.merge (by unfold KR; rfl)).kp (tup_kp h1 True.intro) (frz_kp h1 True.intro)).pre ⟨[p], rfl⟩
    · rw [if_neg hl] at q
      exact False.elim q
end

/-! ### o[i] = v -/
def opSet (o i v : AV) (A : AH) : Option AH := match o with
  | .ref n => match A.lst? n, i with
    | some xs, .int k => match ixN xs.length k with
      | some j => some (A.set n (.lst (xs.set j v)))
      | none => none
    | _, i => match A.dct? n, keyOf i with
      | some kvs, some key => if kvs.length < sizeLine then some (A.set n (.dct (putA kvs key v))) else none
      | _, _ => none
  | _ => none
def sSub (fv fo fi : EF) : SF := fun ℓ A => (fv ℓ A).toS ℓ fun v A => (fo ℓ A).toS ℓ fun o A => (fi ℓ A).toS ℓ fun i A => match opSet o i v A with
  | some A' => .nx ℓ A'
  | none => .bad
def rSetE : TSet := fun o i v H Q => rSetL o i v H Q ∨ ∃ a H', o = .ref a ∧ DPut H a i v H' ∧ Q H'
section
variable {R : Rc} {X : Cx} {W : WX}
theorem pset_e (hu : X.A.units + 64 < cLine) : PSet X rSetE := fun pins s σ H o i v ov iv u Q I ro ri rv h => by
  rcases h with h | ⟨a, H', rfl, g, q⟩
  · exact set_list pins s σ H o i v ov iv u Q I ro ri rv h
  · cases ro
    exact d_setItem (by omega) I g ri rv fun s' I' => ⟨H', I', q⟩
theorem simS_sub {tv to ti : TE} {fv fo fi : EF} (hv : Sim R (VR R) W tv fv) (ho : Sim R (VR R) W to fo) (hi : Sim R (VR R) W ti fi) : SimS R W (tAsg tv (gSub to ti rSetE)) (sSub fv fo fi) := fun D σ ℓ H ι A L M q =>
  hv σ ℓ H ι A _ L M (ThenS.ofE L q fun a A1 ι1 H1 x U1 M1 r1 L1 q1 => ho σ ℓ H1 ι1 A1 _ L1 M1 (ThenS.ofE L1 q1 fun b A2 ι2 H2 y U2 M2 r2 L2' q2 => hi σ ℓ H2 ι2 A2 _ L2' M2 (ThenS.ofE L2' q2 fun c A3 ι3 H3 z U3 M3 r3 L3 q3 => by
    have r1' := (r1.up U2).up U3
    have r2' := r2.up U3
    unfold opSet at q3
    cases b with
    | ref n =>
      simp only at q3
      obtain ⟨p, hp, rfl⟩ := vr_ref r2'
      split at q3
      · rename_i A' e
        split at e
        · rename_i xs k e1
          split at e
          · rename_i j e2
            cases e
            obtain ⟨vs, h1, v1⟩ := lst_rd M3 e1 hp
            obtain ⟨U4, M4⟩ := M3.set (w := .lst (xs.set j a)) (o := .lst (vs.set j x)) (lst_at e1) hp ⟨_, upd_same, (v1.set j r1').up (Up.upd h1 True.intro (List.mem_of_getElem? hp))⟩
            refine .inl ⟨p, vs, k, j, rfl, vr_int r3, h1, by rw [← v1.length]; exact e2, ?_⟩
            exact q3 ι3 _ σ U4 M4 (L3.up U4)
          · cases e
        · split at e
          · rename_i kvs key e1 e2
            split at e
            · rename_i hl
              cases e
              obtain ⟨vs, h1, v1⟩ := dct_rd M3 e1 hp
              obtain ⟨U4, M4⟩ := M3.set (w := .dct (putA kvs key a)) (o := .dK (putK vs key x)) (dct_at e1) hp ⟨_, upd_same, (v1.put r1').up (Up.upd h1 True.intro (List.mem_of_getElem? hp))⟩
              refine .inr ⟨p, _, rfl, ?_, q3 ι3 _ σ U4 M4 (L3.up U4)⟩
              rw [keyOf_ok e2 r3]
              exact DPut.k h1 (by rw [← v1.length]; exact hl)
            · cases e
          · cases e
      · exact False.elim q3
    | _ => exact False.elim q3)))
end

/-! ### own functions -/
structure GF where
  fn : Fn
  np : Nat
  dv : List AV
  rest : Bool
/-- a call by values: the defaults fill up; what a star takes is a tuple -/
def gCall (g : GF) (as : List AV) (A : AH) : Res AV := if g.rest = true then (if g.np ≤ as.length ∧ as.length ≤ g.np + 5 then g.fn (as.take g.np ++ [.tup (as.drop g.np)]) A else .bad)
  else if as.length ≤ g.np ∧ g.np ≤ as.length + g.dv.length then g.fn (as ++ g.dv.drop (as.length + g.dv.length - g.np)) A else .bad
def SpOf (R : Rc) (fn : Fn) (np : Nat) : Sp := fun vs H Q E => ∃ ι A as, Emb R ι A H ∧ VRs R ι H as vs ∧ as.length = np ∧ Then R (VR R) (fn as A) ι H Q E
/-- the promise of a call -/
def SpG (R : Rc) (g : GF) : Sp := fun vs H Q E => ∃ ι A as, Emb R ι A H ∧ VRs R ι H as vs ∧ Then R (VR R) (gCall g as A) ι H Q E
def eCall (g : GF) (f : AF) : EF := fun ℓ A => (f ℓ A).bind fun as A => gCall g as A
theorem SpOf.len {R : Rc} {fn : Fn} {np : Nat} {vs : List V} {H : Hp} {Q : VK} {E : XK} (h : SpOf R fn np vs H Q E) : vs.length = np := by
  obtain ⟨ι, A, as, _, r, e, _⟩ := h
  rw [← r.length, e]
theorem Vals.dropD {xs : List V} {us : List Value} (n : Nat) (h : Vals xs us) : Vals (xs.drop n) (us.drop n) := L2.Vals.drop n h
theorem VRs.dropV {R : Rc} {ι : List Addr} {H : Hp} {as : List AV} {xs : List V} (n : Nat) (h : VRs R ι H as xs) : VRs R ι H (as.drop n) (xs.drop n) := VRs.drop n h
/-- a def without a star, by how it binds -/
theorem fnR_plain {R : Rc} {P : Program} {mg : Str → Option Value} {base : Heap} {k : Nat} {f : Addr} {fd : FuncData} {ps : List Str} {ds : List Value} {dvs : List V} {g : GF} (hg : g.rest = false) (F : FnOk P R.w R.K mg base (L2.CX P R.w) k f fd ps (SpOf R g.fn g.np))
    (hb : ∀ j, Binds R.K fd ps (ds.drop j)) (hd : Vals dvs ds) (rd : ∀ ι H, VRs R ι H g.dv dvs) : FnR P R.w R.K mg base (L2.CX P R.w) k f (SpG R g) := by
  intro A outer s H ag us vs Q E hr e0 ea r hs
  subst ea
  obtain ⟨ι, A0, as, M, v, q⟩ := hs
  unfold gCall at q
  rw [hg] at q
  rw [if_neg Bool.false_ne_true] at q
  by_cases hl : as.length ≤ g.np ∧ g.np ≤ as.length + g.dv.length
  · rw [if_pos hl] at q
    refine (F.raw (hb (as.length + g.dv.length - g.np)) (Vals.dropD _ hd)).go hr e0 r ⟨ι, A0, _, M, v.append (VRs.dropV _ (rd ι H)), ?_, q⟩
    rw [List.length_append, List.length_drop]
    omega
  · rw [if_neg hl] at q
    exact False.elim q
/-- a global name that holds a def whose reading is g -/
structure FunAt (R : Rc) (X : Cx) (k : Nat) (x : Str) (g : GF) (f : Addr) : Prop where
  mg : X.mg x = some (.ref f)
  kp : PySem.W.keepIn X.K (.ref f) = true
  ok : FnR X.prog X.w X.K X.mg X.base (L2.CX X.prog X.w) k f (SpG R g)
section
variable {R : Rc} {X : Cx} {W : WX}
theorem run_fnRS {k : Nat} {f : Addr} {sp : Sp} {E : L2.St → XK} {CX : CXT} {pins : List (Addr × Obj)} {σ : L2.St} {H : Hp} {s : Shared} {Q : VK} {us : List Value} {vs : List V} (F : FnR X.prog X.w X.K X.mg X.base CX k f sp) (hr : Room k X.A) (hx : PassesAt CX X σ (E σ))
    (I : Inv X pins σ H s) (r : Vals vs us) (h : sp vs H Q (E σ)) : wpAny (model X.prog X.w) X.A (call (.ref f) us) (EP X pins σ Q) X.xe s := by
  refine wpAny_call (codeAny_mono (F.go hr I.env0 r h) fun r s' hq => ?_)
  cases r with
  | error e => exact hx pins H s e s' I hq
  | ok fl =>
    cases fl with
    | ret u => exact I.after hq
    | next => exact False.elim hq
    | brk => exact False.elim hq
    | cont => exact False.elim hq
def tCallD (sp : Sp) (W : WX) (t : TA) : TE := fun σ H Q => t σ H fun vs H1 => sp vs H1 Q (fun c d H' => W c d σ H')
theorem pe_callD {k : Nat} {f : Addr} {sp : Sp} {x : Str} {p pos : Pos} {e : Expr} {es : List Expr} {t : TA}
    (F : FnR X.prog X.w X.K X.mg X.base (L2.CX X.prog X.w) k f sp) (hr : Room k X.A) (hg : Gl X x) (hm : X.mg x = some (.ref f)) (hk : PySem.W.keepIn X.K (.ref f) = true) (tk : Takes X W)
    (ha : PA X (e :: es) t) (hdb : (x == ("__debug__" : Str)) = false) (he : starEach (e :: es) X.env = (false, eval e X.env) :: starEach es X.env) (hpl : (backTo pos (starEach es X.env)).any (·.1) = false) :
    PE X (.Call (.Name x p) (e :: es) [] pos) (tCallD sp W t) := by
  refine ⟨fun pins s σ H Q I h => ?_⟩
  refine wpAny_Call_Name_kw (ld_glob I hg hm ?_ hdb)
  refine PySem.W.callWith_K (h₀ := X.base) I.ok.mod.kin hk (thn (ha.run pos pins s σ H _ I h) fun us s1 ⟨vs, H1, I1, r, q⟩ => ⟨I1.kIn, ?_⟩) he hpl
  exact run_fnRS (E := fun σ c d H' => W c d σ H') F hr (passAt tk σ) I1 r q
theorem pe_callD0 {k : Nat} {f : Addr} {sp : Sp} {x : Str} {p pos : Pos}
    (F : FnR X.prog X.w X.K X.mg X.base (L2.CX X.prog X.w) k f sp) (hr : Room k X.A) (hg : Gl X x) (hm : X.mg x = some (.ref f)) (hk : PySem.W.keepIn X.K (.ref f) = true) (tk : Takes X W)
    (hdb : (x == ("__debug__" : Str)) = false) : PE X (.Call (.Name x p) [] [] pos) (tCallD sp W tNil) := by
  refine ⟨fun pins s σ H Q I h => ?_⟩
  refine wpAny_Call_Name_kw (ld_glob I hg hm ?_ hdb)
  exact PySem.W.callWith_K0 I.kIn hk (run_fnRS (E := fun σ c d H' => W c d σ H') (us := []) F hr (passAt tk σ) I .nil h)
theorem sim_call {k : Nat} {x : Str} {g : GF} {f : Addr} (F : FunAt R X k x g f) {t : TA} {fa : AF} (ha : Sim R (VRs R) W t fa) :
    Sim R (VR R) W (tCallD (SpG R g) W t) (eCall g fa) := fun σ ℓ H ι A Q L M q =>
  ha σ ℓ H ι A _ L M (q.bind fun as A1 ι1 H1 xs U1 M1 v1 q1 => ⟨ι1, A1, as, M1, v1, q1⟩)
end
end Sh

set_option Elab.async false
set_option linter.all false
set_option maxRecDepth 100000
set_option maxHeartbeats 2000000
namespace Sh
open PySem L2 PyProof.Rows

/-! ### methods of built-in types -/
def SimM (R : Rc) (r : V → List V → Hp → VK → Prop) (g : AV → List AV → AH → Res AV) : Prop :=
  ∀ a as x xs H ι A Q E, Emb R ι A H → VR R ι H a x → VRs R ι H as xs → Then R (VR R) (g a as A) ι H Q E → r x xs H Q
inductive RT where
  | list | str | dict
  deriving DecidableEq
def RT.name : RT → String
  | .list => "list" | .str => "str" | .dict => "dict"
def rcv (T : RT) (a : AV) (A : AH) : Bool := match T with
  | .list => (sq? a A).isSome
  | .str => (match a with | .str _ => true | _ => false)
  | .dict => (match a with | .ref n => (A.dct? n).isSome | _ => false)
def eBM (T : RT) (g : AV → List AV → AH → Res AV) (fo : EF) (fa : AF) : EF := fun ℓ A => (fo ℓ A).bind fun a A => if rcv T a A then (fa ℓ A).bind fun as A => g a as A else .bad
section
variable {R : Rc} {X : Cx} {W : WX}
theorem rcv_ok {T : RT} {a : AV} {A : AH} {x : V} {ι : List Addr} {H : Hp} (M : Emb R ι A H) (h : rcv T a A = true) (r : VR R ι H a x) : tyV R.K T.name x H := by
  cases T with
  | list =>
    simp only [rcv] at h
    obtain ⟨xs, e⟩ := Option.isSome_iff_exists.mp h
    obtain ⟨p, vs, rfl, h1, _⟩ := sq_rd M e r
    exact .inl ⟨rfl, vs, h1⟩
  | str =>
    simp only [rcv] at h
    cases a with
    | str s => rw [vr_str r]; rfl
    | _ => cases h
  | dict =>
    simp only [rcv] at h
    cases a with
    | ref n =>
      obtain ⟨kvs, e⟩ := Option.isSome_iff_exists.mp h
      obtain ⟨p, hp, rfl⟩ := vr_ref r
      obtain ⟨vs, h1, _⟩ := dct_rd M e hp
      exact .inr (.inr (.inl ⟨rfl, .inl ⟨vs, h1⟩⟩))
    | _ => cases h
theorem sim_bm {T : RT} {r : V → List V → Hp → VK → Prop} {g : AV → List AV → AH → Res AV} {to : TE} {fo : EF} {t : TA} {fa : AF} (hr : SimM R r g) (ho : Sim R (VR R) W to fo) (ha : Sim R (VRs R) W t fa) :
    Sim R (VR R) W (tBM R.K T.name r to t) (eBM T g fo fa) := fun σ ℓ H ι A Q L M q =>
  ho σ ℓ H ι A _ L M (q.bind fun a A1 ι1 H1 x U1 M1 v1 q1 => by
    by_cases h : rcv T a A1 = true
    · rw [if_pos h] at q1
      exact ⟨rcv_ok M1 h v1, ha σ ℓ H1 ι1 A1 _ (L.up U1) M1 (q1.bind fun as A2 ι2 H2 xs U2 M2 v2 q2 => hr _ _ _ _ _ _ _ _ _ M2 (v1.up U2) v2 q2)⟩
    · rw [if_neg h] at q1
      exact False.elim q1)
theorem sim_bm0 {T : RT} {r : V → List V → Hp → VK → Prop} {g : AV → List AV → AH → Res AV} {to : TE} {fo : EF} (hr : SimM R r g) (ho : Sim R (VR R) W to fo) :
    Sim R (VR R) W (tBM0 R.K T.name r to) (eBM T g fo aNil) := fun σ ℓ H ι A Q L M q =>
  ho σ ℓ H ι A _ L M (q.bind fun a A1 ι1 H1 x U1 M1 v1 q1 => by
    by_cases h : rcv T a A1 = true
    · rw [if_pos h] at q1
      exact ⟨rcv_ok M1 h v1, hr _ _ _ _ _ _ _ _ _ M1 v1 (by unfold VRs; rfl) q1⟩
    · rw [if_neg h] at q1
      exact False.elim q1)
/-- an object of ours is changed, a value comes back -/
theorem Then.chg {ι : List Addr} {H : Hp} {A : AH} {n : Nat} {p : Addr} {v w : AO} {o : HO} {b : AV} {y : V} {Q : VK} {E : XK} (q : Then R (VR R) (.ok b (A.set n w)) ι H Q E) (M : Emb R ι A H) (e : A[n]? = some v) (hp : ι[n]? = some p)
    (hw : Up R ι ι H (upd H p o) → OR R ι (upd H p o) p w) (hy : VR R ι H b y) : Q y (upd H p o) := by
  obtain ⟨u, hu, mu⟩ := (M.obj n v p e hp).ho
  have U : Up R ι ι H (upd H p o) := Up.upd hu mu (List.mem_of_getElem? hp)
  obtain ⟨_, M4⟩ := M.set e hp (hw U)
  exact q ι _ y U M4 (hy.up U)
end
def mAppend (a : AV) (as : List AV) (A : AH) : Res AV := match a, as with
  | .ref n, [v] => match A.lst? n with
    | some xs => if xs.length < sizeLine then .ok .non (A.set n (.lst (xs ++ [v]))) else .bad
    | none => .bad
  | _, _ => .bad
def mExtend (a : AV) (as : List AV) (A : AH) : Res AV := match a, as with
  | .ref n, [.ref m] => match A.lst? n, A.lst? m with
    | some xs, some ys => if xs.length + ys.length ≤ sizeLine then .ok .non (A.set n (.lst (xs ++ ys))) else .bad
    | _, _ => .bad
  | _, _ => .bad
def mPop (a : AV) (as : List AV) (A : AH) : Res AV := match a, as with
  | .ref n, [] => match A.lst? n with
    | some xs => (match xs[xs.length - 1]? with | some y => .ok y (A.set n (.lst xs.dropLast)) | none => .bad)
    | none => .bad
  | .ref n, [.int i] => match A.lst? n with
    | some xs => if -(2 ^ 63) ≤ i ∧ i < 2 ^ 63 then (match seqIndex? i xs.length with
        | some k => (match xs[k]? with | some y => .ok y (A.set n (.lst (xs.eraseIdx k))) | none => .bad)
        | none => .bad) else .bad
    | none => .bad
  | _, _ => .bad
def mInsert (a : AV) (as : List AV) (A : AH) : Res AV := match a, as with
  | .ref n, [.int i, v] => match A.lst? n with
    | some xs => if xs.length < sizeLine ∧ 0 ≤ i ∧ i < 2 ^ 63 then .ok .non (A.set n (.lst (xs.take i.toNat ++ [v] ++ xs.drop i.toNat))) else .bad
    | none => .bad
  | _, _ => .bad
def flatA : AV → Bool
  | .non => true | .bl _ => true | .int _ => true | .str _ => true | _ => false
def eqFA : AV → AV → Bool
  | .non, .non => true
  | .bl a, .bl b => a == b
  | .bl a, .int b => (if a then 1 else 0) == b
  | .int a, .bl b => a == (if b then 1 else 0)
  | .int a, .int b => a == b
  | .str a, .str b => a == b
  | _, _ => false
def mIndex (a : AV) (as : List AV) (A : AH) : Res AV := match as with
  | [y] => match sq? a A with
    | some xs => if flatA y && xs.all flatA then (match xs.findIdx? (fun z => eqFA z y) with | some j => .ok (.int (j : Nat)) A | none => .bad) else .bad
    | none => .bad
  | _ => .bad
section
variable {R : Rc} {X : Cx} {W : WX}
theorem VRs.dropLast' {ι : List Addr} {H : Hp} {as : List AV} {xs : List V} (h : VRs R ι H as xs) : VRs R ι H as.dropLast xs.dropLast := by
  rw [List.dropLast_eq_take, List.dropLast_eq_take, h.length]
  exact h.take _
theorem VRs.eraseIdx {ι : List Addr} {H : Hp} : ∀ {as : List AV} {xs : List V} (n : Nat), VRs R ι H as xs → VRs R ι H (as.eraseIdx n) (xs.eraseIdx n)
  | [], _, _, h => by unfold VRs at h; subst h; simp; unfold VRs; rfl
  | a :: as, _, 0, h => by
    unfold VRs at h
    obtain ⟨v, r, rfl, q, t⟩ := h
    exact t
  | a :: as, _, n + 1, h => by
    unfold VRs at h
    obtain ⟨v, r, rfl, q, t⟩ := h
    rw [List.eraseIdx_cons_succ, List.eraseIdx_cons_succ]
    unfold VRs
    exact ⟨v, _, rfl, q, VRs.eraseIdx n t⟩
theorem VRs.one {ι : List Addr} {H : Hp} {a : AV} {x : V} (h : VR R ι H a x) : VRs R ι H [a] [x] := by
  unfold VRs
  exact ⟨x, [], rfl, h, by unfold VRs; rfl⟩
theorem mAppend_s : SimM R rAppend mAppend := fun a as x xs H ι A Q E M r rs q => by
  unfold mAppend at q
  split at q
  · rename_i n v
    obtain ⟨p, hp, rfl⟩ := vr_ref r
    obtain ⟨y, rfl, r2⟩ := vrs1 rs
    split at q
    · rename_i ys e
      split at q
      · rename_i hl
        obtain ⟨vs, h1, v1⟩ := lst_rd M e hp
        exact ⟨p, vs, y, rfl, rfl, h1, by rw [← v1.length]; exact hl, q.chg M (lst_at e) hp (fun U => ⟨_, upd_same, (v1.append (VRs.one r2)).up U⟩) mk_non⟩
      · exact False.elim q
    · exact False.elim q
  · exact False.elim q
theorem mExtend_s : SimM R rExtend mExtend := fun a as x xs H ι A Q E M r rs q => by
  unfold mExtend at q
  split at q
  · rename_i n m
    obtain ⟨p, hp, rfl⟩ := vr_ref r
    obtain ⟨y, rfl, r2⟩ := vrs1 rs
    obtain ⟨p2, hp2, rfl⟩ := vr_ref r2
    split at q
    · rename_i ys zs e e2
      split at q
      · rename_i hl
        obtain ⟨vs, h1, v1⟩ := lst_rd M e hp
        obtain ⟨ws, h2, v2⟩ := lst_rd M e2 hp2
        exact ⟨p, p2, vs, ws, rfl, rfl, h1, h2, by rw [← v1.length, ← v2.length]; exact hl, q.chg M (lst_at e) hp (fun U => ⟨_, upd_same, (v1.append v2).up U⟩) mk_non⟩
      · exact False.elim q
    · exact False.elim q
  · exact False.elim q
theorem mPop_s : SimM R (fun x xs H Q => rPop x xs H Q ∨ rPopAt x xs H Q) mPop := fun a as x xs H ι A Q E M r rs q => by
  unfold mPop at q
  split at q
  · rename_i n
    obtain ⟨p, hp, rfl⟩ := vr_ref r
    have e0 := vrs0 rs
    subst e0
    split at q
    · rename_i ys e
      split at q
      · rename_i y e2
        obtain ⟨vs, h1, v1⟩ := lst_rd M e hp
        obtain ⟨z, e3, r3⟩ := v1.get e2
        exact .inl ⟨p, vs, z, rfl, rfl, h1, by rw [← v1.length]; exact e3, q.chg M (lst_at e) hp (fun U => ⟨_, upd_same, v1.dropLast'.up U⟩) r3⟩
      · exact False.elim q
    · exact False.elim q
  · rename_i n i
    obtain ⟨p, hp, rfl⟩ := vr_ref r
    obtain ⟨y, rfl, r2⟩ := vrs1 rs
    split at q
    · rename_i ys e
      split at q
      · rename_i hi
        split at q
        · rename_i k e1
          split at q
          · rename_i y e2
            obtain ⟨vs, h1, v1⟩ := lst_rd M e hp
            obtain ⟨z, e3, r3⟩ := v1.get e2
            rw [vr_int r2]
            exact .inr ⟨p, vs, i, k, z, rfl, rfl, h1, hi.1, hi.2, by rw [← v1.length]; exact e1, e3, q.chg M (lst_at e) hp (fun U => ⟨_, upd_same, (v1.eraseIdx k).up U⟩) r3⟩
          · exact False.elim q
        · exact False.elim q
      · exact False.elim q
    · exact False.elim q
  · exact False.elim q
theorem mInsert_s : SimM R (fun x vs H Q => ∃ (l : Addr) (xs : List V) (i : Int) (y : V), x = .ref l ∧ vs = [.int i, y] ∧ H l = some (.lst xs) ∧ xs.length < sizeLine ∧ 0 ≤ i ∧ i < 2 ^ 63 ∧
    Q .non (upd H l (.lst (xs.take i.toNat ++ [y] ++ xs.drop i.toNat)))) mInsert := fun a as x xs H ι A Q E M r rs q => by
  unfold mInsert at q
  split at q
  · rename_i n i v
    obtain ⟨p, hp, rfl⟩ := vr_ref r
    obtain ⟨y, z, rfl, r2, r3⟩ := vrs2 rs
    split at q
    · rename_i ys e
      split at q
      · rename_i hl
        obtain ⟨vs, h1, v1⟩ := lst_rd M e hp
        rw [vr_int r2]
        exact ⟨p, vs, i, z, rfl, rfl, h1, by rw [← v1.length]; exact hl.1, hl.2.1, hl.2.2, q.chg M (lst_at e) hp (fun U => ⟨_, upd_same, (((v1.take _).append (VRs.one r3)).append (v1.drop _)).up U⟩) mk_non⟩
      · exact False.elim q
    · exact False.elim q
  · exact False.elim q
theorem flatA_ok {ι : List Addr} {H : Hp} {a : AV} {x : V} (h : flatA a = true) (r : VR R ι H a x) : flatV x = true := by
  cases a with
  | non => rw [vr_non r]; rfl
  | bl b => rw [vr_bl r]; rfl
  | int b => rw [vr_int r]; rfl
  | str b => rw [vr_str r]; rfl
  | _ => cases h
theorem eqFA_ok {ι : List Addr} {H : Hp} {a b : AV} {x y : V} (ha : flatA a = true) (hb : flatA b = true) (r : VR R ι H a x) (r2 : VR R ι H b y) : eqV x y = eqFA a b := by
  cases a <;> first | cases ha | skip
  all_goals cases b <;> first | cases hb | skip
  all_goals first
    | rw [vr_non r]
    | rw [vr_bl r]
    | rw [vr_int r]
    | rw [vr_str r]
  all_goals first
    | rw [vr_non r2]
    | rw [vr_bl r2]
    | rw [vr_int r2]
    | rw [vr_str r2]
  all_goals rfl
theorem VRs.allFlat {ι : List Addr} {H : Hp} : ∀ {as : List AV} {xs : List V}, VRs R ι H as xs → as.all flatA = true → xs.all flatV = true
  | [], _, h, _ => by unfold VRs at h; subst h; rfl
  | a :: as, _, h, k => by
    unfold VRs at h
    obtain ⟨v, r, rfl, q, t⟩ := h
    simp only [List.all_cons, Bool.and_eq_true] at k ⊢
    exact ⟨flatA_ok k.1 q, VRs.allFlat t k.2⟩
theorem VRs.getV {ι : List Addr} {H : Hp} : ∀ {as : List AV} {xs : List V} {n : Nat} {x : V}, VRs R ι H as xs → xs[n]? = some x → ∃ a, as[n]? = some a ∧ VR R ι H a x := fun {as xs n x} h e => by
  have hl : n < as.length := by rw [h.length]; exact (List.getElem?_eq_some_iff.mp e).1
  obtain ⟨y, e2, r⟩ := h.get (List.getElem?_eq_getElem hl)
  rw [e] at e2
  cases e2
  exact ⟨_, List.getElem?_eq_getElem hl, r⟩
/-! ### list.count of flat items -/
def mCount (a : AV) (as : List AV) (A : AH) : Res AV := match as with
  | [y] => match sq? a A with
    | some xs => if flatA y && xs.all flatA then .ok (.int (xs.countP fun z => eqFA z y : Nat)) A else .bad
    | none => .bad
  | _ => .bad
def rCntF (K : PySem.W.Frag) : V → List V → Hp → VK → Prop := fun x xs H Q => ∃ (a : Addr) (ys : List V) (y : V), x = V.ref a ∧ xs = [y] ∧ SqL K H a ys ∧ flatV y = true ∧ ys.all flatV = true ∧ Q (.int (ys.countP fun z => eqV z y : Nat)) H
theorem cnt_eq {y : V} : ∀ {ys : List V} {us : List Value}, Vals ys us → ys.all flatV = true → us.countP (eqU y) = ys.countP fun z => eqV z y
  | _, _, .nil, _ => rfl
  | z :: ys, u :: us, .cons r t, f => by
    rw [List.all_cons, Bool.and_eq_true] at f
    rw [List.countP_cons, List.countP_cons, cnt_eq t f.2, eqU_of r f.1]
theorem mt_countF : MtR X "list.count" (rCntF X.K) := by
  intro pins s σ H x xs v us Q I rx rxs h
  obtain ⟨a, ys, y, rfl, rfl, hs, fy, fys, q⟩ := h
  cases rx
  cases rxs with
  | cons ry rt =>
    rename_i uy ut
    cases rt
    obtain ⟨its, rv, ⟨⟨cls, dd, data, sl⟩, n, ho, hc, hdn, hd⟩, hlen⟩ := I.list hs
    simp only at hc hd
    subst hc hd
    refine call_meets PySem.F.slot_list_count ⟨_, ho, rfl⟩ PySem.F.entry_list_count (PySem.F.args_list_count_2 _ _) (SeqAt.list_countAt a its.toArray n dd sl uy (eqU y)) ⟨ho, fun u' hu' => mem_eqAt ry fy rv fys u' (by simpa using hu'), ?_⟩
    refine ⟨.int (ys.countP fun z => eqV z y : Nat), H, I.tok _, ⟨s.toks, ?_⟩, q⟩
    have e : its.toArray.toList.countP (eqU y) = ys.countP fun z => eqV z y := cnt_eq rv fys
    rw [e]
theorem mCount_s (hK : X.K = R.K) : SimM R (rCntF X.K) mCount := fun a as x xs H ι A Q E M r rs q => by
  unfold mCount at q
  split at q
  · rename_i v
    obtain ⟨y, rfl, r2⟩ := vrs1 rs
    split at q
    · rename_i ys e
      obtain ⟨p, vs, rfl, h1, v1⟩ := sq_rd M e r
      split at q
      · rename_i hf
        rw [Bool.and_eq_true] at hf
        have ec : (vs.countP fun z => eqV z y) = ys.countP fun z => eqFA z v := by
          clear q h1 e
          revert vs
          induction ys with
          | nil => intro vs v1; unfold VRs at v1; subst v1; rfl
          | cons b bs ih =>
            intro vs v1
            unfold VRs at v1
            obtain ⟨u, w, rfl, q1, t1⟩ := v1
            have hb := hf.2
            rw [List.all_cons, Bool.and_eq_true] at hb
            rw [List.countP_cons, List.countP_cons, ih ⟨hf.1, hb.2⟩ w t1, eqFA_ok hb.1 hf.1 q1 r2]
        refine ⟨p, vs, y, rfl, rfl, by rw [hK]; exact h1, flatA_ok hf.1 r2, v1.allFlat hf.2, ?_⟩
        rw [ec]
        exact q.here M mk_int
      · exact False.elim q
    · exact False.elim q
  · exact False.elim q
theorem mIndex_s (hK : X.K = R.K) : SimM R (rIndex X.K) mIndex := fun a as x xs H ι A Q E M r rs q => by
  unfold mIndex at q
  split at q
  · rename_i v
    obtain ⟨y, rfl, r2⟩ := vrs1 rs
    split at q
    · rename_i ys e
      obtain ⟨p, vs, rfl, h1, v1⟩ := sq_rd M e r
      split at q
      · rename_i hf
        rw [Bool.and_eq_true] at hf
        split at q
        · rename_i j e2
          rw [List.findIdx?_eq_some_iff_getElem] at e2
          obtain ⟨hj, h2, h3⟩ := e2
          obtain ⟨z, e3, r3⟩ := v1.get (List.getElem?_eq_getElem hj)
          have fl : ∀ (m : Nat) (hm : m < ys.length), flatA ys[m] = true := fun m hm => List.all_eq_true.mp hf.2 _ (List.getElem_mem hm)
          refine ⟨p, vs, y, j, z, rfl, rfl, by rw [hK]; exact h1, flatA_ok hf.1 r2, v1.allFlat hf.2, e3, ?_, fun m z' hm e4 => ?_, q.here M mk_int⟩
          · rw [eqFA_ok (fl j hj) hf.1 r3 r2]
            exact h2
          · obtain ⟨b, e5, r5⟩ := v1.getV e4
            have hm2 : m < ys.length := by omega
            rw [List.getElem?_eq_getElem hm2] at e5
            cases e5
            rw [eqFA_ok (fl m hm2) hf.1 r5 r2]
            have := h3 m hm
            simpa using this
        · exact False.elim q
      · exact False.elim q
    · exact False.elim q
  · exact False.elim q
end

/-! ### isinstance -/
inductive BT where
  | non | bl | int | str | lst | tup | dct
  deriving DecidableEq
def BT.name : BT → String
  | .non => "NoneType" | .bl => "bool" | .int => "int" | .str => "str" | .lst => "list" | .tup => "tuple" | .dct => "dict"
def BT.of (n : String) : Option BT := if n = "int" then some .int else if n = "bool" then some .bl else if n = "str" then some .str else if n = "list" then some .lst else if n = "tuple" then some .tup else if n = "dict" then some .dct else none
def BT.sub (a b : BT) : Bool := decide (a = b) || (decide (a = .bl) && decide (b = .int))
theorem BT.of_name {n : String} {t : BT} (h : BT.of n = some t) : n = t.name := by
  unfold BT.of at h
  repeat' split at h
  all_goals first | (cases h; assumption) | cases h
theorem kit_BT (a b : BT) : kitB a.name b.name = some (BT.sub a b) := by
  cases a <;> cases b <;> decide +kernel
def btOf (a : AV) (A : AH) : Option BT := match a with
  | .non => some .non
  | .bl _ => some .bl
  | .int _ => some .int
  | .str _ => some .str
  | .tup _ => some .tup
  | .fl _ => some .lst
  | .ref n => match A[n]? with
    | some (.lst _) => some .lst
    | some (.dct _) => some .dct
    | _ => none
  | .gd _ kvs => if kvs.all strK then some .dct else none
  | _ => none
def tyNames : List AV → Option (List BT)
  | [] => some []
  | .ty n :: as => match BT.of n, tyNames as with | some t, some ts => some (t :: ts) | _, _ => none
  | _ => none
def bIsi (as : List AV) (A : AH) : Res AV := match as with
  | [a, .ty n] => match btOf a A, BT.of n with
    | some t, some c => .ok (.bl (t.sub c)) A
    | _, _ => .bad
  | [a, .tup cs] => match btOf a A, tyNames cs with
    | some t, some ts => .ok (.bl (ts.any fun c => t.sub c)) A
    | _, _ => .bad
  | [.ref n, .cls c] => match A[n]? with
    | some (.ins c' _) => if c' = c then .ok (.bl true) A else .bad
    | _ => .bad
  | _ => .bad
section
variable {R : Rc} {X : Cx} {W : WX}
theorem btOf_ok (hg : GdOk R) {ι : List Addr} {H : Hp} {A : AH} {a : AV} {x : V} {t : BT} (M : Emb R ι A H) (h : btOf a A = some t) (r : VR R ι H a x) : TyX R.K H x (.type t.name) := by
  unfold btOf at h
  cases a with
  | non => cases h; rw [vr_non r]; exact .base .non
  | bl b => cases h; rw [vr_bl r]; exact .base (.bl b)
  | int b => cases h; rw [vr_int r]; exact .base (.int b)
  | str b => cases h; rw [vr_str r]; exact .base (.str b)
  | tup xs =>
    cases h
    obtain ⟨p, vs, rfl, h1, _⟩ := vr_tup r
    rcases h1 with (h1 | ⟨ob, h1⟩) | ⟨o, its, n, h1, h2, _⟩
    · exact .base (.tup h1)
    · exact .fTuple h1
    · exact .kTuple h1 h2
  | fl xs =>
    cases h
    obtain ⟨p, vs, rfl, h1, _⟩ := vr_fl r
    rcases h1 with ⟨ob, h1⟩ | ⟨o, its, n, h1, h2, _⟩
    · exact .base (.frz h1)
    · exact .kList h1 h2
  | ref n =>
    obtain ⟨p, hp, rfl⟩ := vr_ref r
    simp only at h
    split at h
    · rename_i ys e
      cases h
      obtain ⟨vs, h1, _⟩ := M.obj n _ p e hp
      exact .base (.lst h1)
    · rename_i ys e
      cases h
      obtain ⟨vs, h1, _⟩ := M.obj n _ p e hp
      exact .base (.dK h1)
    · cases h
  | gd n kvs =>
    simp only at h
    split at h
    · rename_i ha
      cases h
      unfold VR at r
      obtain ⟨p, h1, h2, rfl⟩ := r
      obtain ⟨es, m, D, _⟩ := (hg n kvs p h2 h1).2.2 ha
      exact .kDict D.at_ rfl
    · cases h
  | _ => cases h
def rIsiQ (K : PySem.W.Frag) : List V → Hp → VK → Prop := fun xs H Q => ∃ (x : V) (tp : Addr) (cs : List V) (t : Value) (us : List Value) (b : Bool), xs = [x, .ref tp] ∧ SqT K H tp cs ∧ Paired ClsV cs us ∧ TyX K H x t ∧ PySem.W.kitAny K t us = some b ∧ Q (.bl b) H
theorem call_isiQ : CallR X (.builtin "isinstance") (rIsiQ X.K) := by
  intro pins s σ H xs us Q I r h
  obtain ⟨x, tp, cs, t, ws, b, rfl, hT, k, ty, e, q⟩ := h
  obtain ⟨u1, u2, rfl, r1, r2⟩ := vals2 r
  cases (show u2 = Value.ref tp from r2)
  obtain ⟨P, Z, p, hx⟩ := kit_of I r1 ty
  obtain ⟨its, rv, ⟨o, h1, h2, n, h3⟩, _⟩ := I.tuple hT
  have e3 := ClsV.all k rv
  subst e3
  obtain ⟨oc, od, dt, sl⟩ := o
  simp only at h2 h3
  subst h2 h3
  exact PySem.W.kia_tup Z I.kIn p h1 e hx fun tk => ⟨.bl b, H, I.tok tk, rfl, q⟩
theorem tyNames_ok {ι : List Addr} {H : Hp} {t : BT} {K : PySem.W.Frag} : ∀ {as : List AV} {xs : List V} {ts : List BT}, tyNames as = some ts → VRs R ι H as xs → ∃ us, Paired ClsV xs us ∧ PySem.W.kitAny K (.type t.name) us = some (ts.any fun c => t.sub c)
  | [], _, _, h, r => by unfold tyNames at h; cases h; rw [vrs0 r]; exact ⟨[], .nil, rfl⟩
  | a :: as, _, _, h, r => by
    unfold VRs at r
    obtain ⟨v, rest, rfl, r1, r2⟩ := r
    cases a with
    | ty n =>
      unfold tyNames at h
      split at h
      · rename_i c cs e1 e2
        cases h
        obtain ⟨us, p1, p2⟩ := tyNames_ok (t := t) (K := K) e2 r2
        unfold VR at r1
        subst r1
        refine ⟨.type n :: us, .cons (.ty n) p1, ?_⟩
        rw [BT.of_name e1]
        refine kitAny_cons (b := t.sub c) (kit_ty (kit_BT t c)) (fun hb => ?_) fun hb => ?_
        · rw [List.any_cons, hb, Bool.false_or]
          exact p2
        · rw [List.any_cons, hb, Bool.true_or]
      · cases h
    | _ => unfold tyNames at h; cases h
theorem call_isK : CallR X (.builtin "isinstance") (fun xs H Q => ∃ a C dx fs, ClsX X.K C ∧ xs = [.ref a, .ref C] ∧ H a = some (.ins C dx fs) ∧ Q (.bl true) H) := by
  intro pins s σ H xs us Q I r h
  obtain ⟨a, C, dx, fs, cx, e, ha, q⟩ := h
  exact C8.call_isC cx.ii pins s σ H xs us Q I r ⟨a, dx, fs, e, ha, q⟩
theorem bIsi_s (hK : X.K = R.K) (hg : GdOk R) : ∃ r, CallR X (.builtin "isinstance") r ∧ SimC R r bIsi := ⟨_, call_isi.or (call_isiQ.or call_isK), fun as xs H ι A Q E M r q => by
  unfold bIsi at q
  split at q
  · rename_i a n
    obtain ⟨x, y, rfl, r1, r2⟩ := vrs2 r
    split at q
    · rename_i t c e1 e2
      unfold VR at r2
      subst r2
      have e3 := BT.of_name e2
      refine .inl ⟨x, .ty n, .type t.name, .type n, t.sub c, rfl, .ty n, by rw [hK]; exact btOf_ok hg M e1 r1, ?_, q.here M mk_bl⟩
      rw [e3]
      exact kit_ty (kit_BT t c)
    · exact False.elim q
  · rename_i a cs
    obtain ⟨x, y, rfl, r1, r2⟩ := vrs2 r
    split at q
    · rename_i t ts e1 e2
      obtain ⟨p, vs, rfl, h1, v1⟩ := vr_tup r2
      obtain ⟨us, p1, p2⟩ := tyNames_ok (t := t) (K := X.K) e2 v1
      exact .inr (.inl ⟨x, p, vs, .type t.name, us, _, rfl, by rw [hK]; exact h1, p1, by rw [hK]; exact btOf_ok hg M e1 r1, p2, q.here M mk_bl⟩)
    · exact False.elim q
  · rename_i n c
    obtain ⟨x, y, rfl, r1, r2⟩ := vrs2 r
    split at q
    · rename_i c' fs e1
      split at q
      · rename_i hc
        subst hc
        obtain ⟨p, hp, rfl⟩ := vr_ref r1
        unfold VR at r2
        obtain ⟨C, hC, cx, rfl⟩ := r2
        obtain ⟨C', dx, fs', h1, h2, h3⟩ := M.obj n _ p e1 hp
        have : C' = C := by rw [hC] at h1; exact (Option.some.inj h1).symm
        subst this
        exact .inr (.inr ⟨p, C', dx, fs', by rw [hK]; exact cx, rfl, h2, q.here M mk_bl⟩)
      · exact False.elim q
    · exact False.elim q
  · exact False.elim q⟩
end
end Sh

set_option Elab.async false
set_option linter.all false
set_option maxRecDepth 100000
set_option maxHeartbeats 4000000
namespace RT
open PySem PySem.Spec PyProof.Rows MpR PySem.W
section
variable {prog : Program} {w : World} {A : Around} {E : Value → Shared → Prop} {s : Shared}
/-- sep.join(reversed(l)) -/
theorem join_rev {x : Str} {t : Tok} {it l : Addr} {items : Array Value} {ys : List Str} {Q : Value → Shared → Prop} (hh : A.handled = none) (hit : s.heap.IsRevIter it l ((items.size : Int) - 1)) (hl : s.heap.IsList l items) (hne : l ≠ it) (hn : items.size ≤ sizeLine)
    (hP : ∀ acc : Array Value, ItemsOf (fun i v => items[items.size - 1 - i]? = some v) acc items.size → StrsAre acc.toList ys) (hok : (ys.map (·.length)).sum + ys.length * x.length ≤ 16777216)
    (hq : ∀ (h' : Heap) (tk : Nat), (∀ b o, b ≠ it → s.heap.get? b = some o → h'.get? b = some o) → ∀ t', Q (.str (Txt.join x ys) t') { s with heap := h', toks := tk }) :
    wpAny (model prog w) A (call (.builtin "str.join") [.str x t, .ref it]) Q E s := by
  refine wpAny_call (codeAny_call_builtin F.slot_str_join.plain F.entry_str_join (F.slot_str_join.check _ _ _ _ _ _ _ _ (typeIs_str _ _ _) (F.args_str_join_2 _ _) ?_))
  rw [join_tree_other]
  have hT : s.TypeIs (.ref it) "list_reverseiterator" := hit.typeIs
  refine wpAny_bind (wpAny_typeOf hT ?_)
  show wpAny _ A.in1 ((pyIter (.ref it)).tryCatch _ >>= fun it => collect it >>= fun items => joinTail x items) _ _ s
  refine wpAny_bind (wpAny_tryCatch (wpAny_pyIter_revIter hit ?_))
  have hh1 : A.in1.handled = none := hh
  refine wpAny_bind (collect_rev (A := A.in1) hh1 hit hl hne hn fun h' tk acc hk hacc => ?_)
  obtain ⟨l, hl, ht⟩ := strsAre_values (hP acc hacc)
  subst ht
  rw [hl]
  have hok' := joinOk_of hok
  unfold JoinOk at hok'
  rw [Bool.not_eq_true'] at hok'
  have g : Gives (joinTail x (strValues l)) (joinMade x l) := by
    have g0 := gives_joinTail x l hok'
    cases l with
    | nil => exact g0
    | cons p r => cases r with
      | nil => exact g0
      | cons q r' => exact g0
  exact g prog w A (wants Q E) _ (post_join l ⟨joinFit_length hok', fun t' k => hq h' k hk t'⟩)
end
end RT
namespace Sh
open PySem L2 PyProof.Rows
section
variable {X : Cx}
/-- sep.join(reversed(e)), e a list of texts -/
def tJoinRev (K : PySem.W.Frag) (to te : TE) : TE := fun σ H Q => to σ H fun x H1 => (∃ a, x = .str a) ∧ te σ H1 fun v H2 => ∃ (a : Str) (q : Addr) (ys : List Str), x = .str a ∧ v = .ref q ∧ SqL K H2 q (ys.map V.str) ∧ (ys.map (·.length)).sum + ys.length * a.length ≤ 16777216 ∧ Q (.str (Txt.join a ys.reverse)) H2
theorem strs_rev {its : List Value} {ys : List Str} {acc : Array Value} (r : Vals (ys.map V.str) its) (h : ItemsOf (fun i v => its.toArray[its.toArray.size - 1 - i]? = some v) acc its.toArray.size) : StrsAre acc.toList ys.reverse := by
  have := RT.vals_rev r h
  rw [← List.map_reverse] at this
  exact strs_of_vals this
theorem pe_joinRev {o e : Expr} {to te : TE} {apos pos p2 pos2 : Pos} (hc : X.calm = true) (ho : PE X o to) (hg2 : Gl X "reversed") (hm2 : X.mg "reversed" = none) (he : PE X e te)
    (hs : starEach [e] X.env = (false, eval e X.env) :: starEach [] X.env)
    (hs1 : starEach [.Call (.Name "reversed" p2) [e] [] pos2] X.env = [(false, eval (.Call (.Name "reversed" p2) [e] [] pos2) X.env)])
    (hbase : attributeBase o "join" X.env (eval o X.env) = eval o X.env) (hline : (apos.endLine == pos.line) = true) :
    PE X (.Call (.Attribute o "join" apos) [.Call (.Name "reversed" p2) [e] [] pos2] [] pos) (tJoinRev X.K to te) := by
  refine ⟨fun pins s σ H Q I h => ?_⟩
  refine PySem.Call_method1 hbase hs1 hline (thn (ho.run pins s σ H _ I h) fun v s1 ⟨x, H1, I1, r1, q1⟩ => ?_)
  obtain ⟨⟨a, rfl⟩, q1⟩ := q1
  obtain ⟨t, rfl⟩ := _root_.id r1
  refine ⟨"str", _, F.plainAttrs_str, F.slot_str_join, F.type_str_join, typeIs_str _ _ _, (fun _ e => nomatch e), Calls.callWith_builtin rfl (Calls.evalArgs_plain (Calls.spliced_cons ?_))⟩
  refine Call_ (ld_blt I1 hg2 hm2 PyProof.Rows.boot_reversed (PyProof.Rows.callWith_type1 (args_cons (thn (he.run pins s1 σ H1 _ I1 q1) fun u s2 ⟨v2, H2, I2, r2, q2⟩ => args_nil ?_) hs) hs rfl))
  obtain ⟨a', q, ys, ea, ev, hq, hz, q3⟩ := q2
  cases ea
  subst ev
  obtain rfl : u = Value.ref q := r2
  obtain ⟨its, rv, p', hsz⟩ := I2.list hq
  refine call_reversed_list p'.isList ?_
  have k0 : ∀ b o, s2.heap.get? b = some o → (s2.heap.push (revObj q ((its.toArray.size : Int) - 1))).get? b = some o := fun b o e => Heap.get?_push_of_some _ e
  have I3 : Inv X pins σ H2 { s2 with heap := s2.heap.push (revObj q ((its.toArray.size : Int) - 1)) } := I2.kept (t' := s2.toks) k0
  obtain ⟨f0, f1, f2, f3, f4, f5⟩ := I2.fpOk (H' := H2) (b := s2.heap.objs.size) (Nat.le_refl _) (I2.hok.fresh (Nat.le_refl _))
  have hl := p'.isList
  obtain ⟨ol, hol, _⟩ := id hl
  have hne : q ≠ s2.heap.objs.size := Nat.ne_of_lt (Heap.lt_size hol)
  have hn : its.toArray.size ≤ sizeLine := by rw [List.size_toArray, ← rv.length]; exact hsz
  refine Calls.spliced_nil ?_
  refine RT.join_rev (s := { s2 with heap := s2.heap.push (revObj q ((its.toArray.size : Int) - 1)) }) (ys := ys.reverse) (I2.ok.hd hc) ⟨_, Heap.get?_push_size _ rfl, rfl, rfl⟩ (hl.push _) hne hn (fun acc hacc => strs_rev rv hacc) ?_ fun h' tk hk t' => ?_
  · rw [List.map_reverse, List.sum_reverse, List.length_reverse]
    exact hz
  · exact ⟨.str _, H2, I3.turned (t' := tk) (fun b o hb e => hk b o hb e) f0 f1 f3 f4 f5, ⟨t', rfl⟩, q3⟩
end
end Sh
namespace Sh
open PySem L2 PyProof.Rows
/-! ### texts -/
def strsA : List AV → Option (List Str)
  | [] => some []
  | .str x :: as => (strsA as).map (x :: ·)
  | _ => none
def sumL (ys : List Str) : Nat := (ys.map (·.length)).sum
def mJoin (a : AV) (as : List AV) (A : AH) : Res AV := match a, as with
  | .str x, [b] => match (match b with | .tup xs => some xs | b => sq? b A).bind strsA with
    | some ys => if sumL ys + ys.length * x.length ≤ 16777216 then .ok (.str (Txt.join x ys)) A else .bad
    | none => .bad
  | _, _ => .bad
def mFind (a : AV) (as : List AV) (A : AH) : Res AV := match a, as with
  | .str x, [.str y] => .ok (.int (Txt.find x y)) A
  | .str x, [.str y, .int i] => .ok (.int (Txt.find3 x y i)) A
  | _, _ => .bad
def eJoinRev (fo fe : EF) : EF := fun ℓ A => (fo ℓ A).bind fun a A => match a with
  | .str x => (fe ℓ A).bind fun b A => match (sq? b A).bind strsA with
    | some ys => if sumL ys + ys.length * x.length ≤ 16777216 then .ok (.str (Txt.join x ys.reverse)) A else .bad
    | none => .bad
  | _ => .bad
section
variable {R : Rc} {X : Cx} {W : WX}
theorem strsA_ok {ι : List Addr} {H : Hp} : ∀ {as : List AV} {vs : List V} {ys : List Str}, strsA as = some ys → VRs R ι H as vs → vs = ys.map V.str
  | [], vs, ys, h, r => by cases h; exact vrs0 r
  | a :: as, vs, ys, h, r => by
    cases a with
    | str x =>
      unfold strsA at h
      cases e : strsA as with
      | none => rw [e] at h; cases h
      | some zs =>
        rw [e] at h
        cases h
        unfold VRs at r
        obtain ⟨v, r', rfl, q, t⟩ := r
        rw [vr_str q, strsA_ok e t]
        rfl
    | _ => cases h
theorem mJoin_s (hK : X.K = R.K) : SimM R (fun x xs H Q => ∃ a p, ∃ ys : List Str, x = .str a ∧ xs = [.ref p] ∧ (SqL X.K H p (ys.map V.str) ∨ SqT X.K H p (ys.map V.str)) ∧ (ys.map (·.length)).sum + ys.length * a.length ≤ 16777216 ∧ Q (.str (Txt.join a ys)) H) mJoin := fun a as x xs H ι A Q E M r rs q => by
  unfold mJoin at q
  split at q
  · rename_i z b
    obtain ⟨y, rfl, r2⟩ := vrs1 rs
    split at q
    · rename_i ys e
      split at q
      · rename_i hl
        cases b with
        | tup xs =>
          obtain ⟨p, vs, rfl, h1, v1⟩ := vr_tup r2
          have e' := strsA_ok e v1
          subst e'
          exact ⟨z, p, ys, vr_str r, rfl, .inr (by rw [hK]; exact h1), hl, q.here M mk_str⟩
        | _ =>
          simp only at e
          cases e1 : sq? _ A with
          | none => rw [e1] at e; cases e
          | some xs =>
            rw [e1] at e
            obtain ⟨p, vs, rfl, h1, v1⟩ := sq_rd M e1 r2
            have e' := strsA_ok e v1
            subst e'
            exact ⟨z, p, ys, vr_str r, rfl, .inl (by rw [hK]; exact h1), hl, q.here M mk_str⟩
      · exact False.elim q
    · exact False.elim q
  · exact False.elim q
theorem mFind_s : SimM R (fun x xs H Q => (∃ a b, x = V.str a ∧ xs = [V.str b] ∧ Q (.int (Txt.find a b)) H) ∨ ∃ (a b : Str) (i : Int), x = V.str a ∧ xs = [V.str b, V.int i] ∧ Q (.int (Txt.find3 a b i)) H) mFind := fun a as x xs H ι A Q E M r rs q => by
  unfold mFind at q
  split at q
  · rename_i z y
    obtain ⟨y', rfl, r2⟩ := vrs1 rs
    exact .inl ⟨z, y, vr_str r, by rw [vr_str r2], q.here M mk_int⟩
  · rename_i z y i
    obtain ⟨y1, y2, rfl, r1, r2⟩ := vrs2 rs
    exact .inr ⟨z, y, i, vr_str r, by rw [vr_str r1, vr_int r2], q.here M mk_int⟩
  · exact False.elim q
theorem sim_joinRev {to te : TE} {fo fe : EF} (hK : X.K = R.K) (ho : Sim R (VR R) W to fo) (he : Sim R (VR R) W te fe) : Sim R (VR R) W (tJoinRev X.K to te) (eJoinRev fo fe) := fun σ ℓ H ι A Q L M q =>
  ho σ ℓ H ι A _ L M (q.bind fun a1 A1 ι1 H1 x U1 M1 v1 q1 => by
    cases a1 with
    | str z =>
      refine ⟨⟨z, vr_str v1⟩, he σ ℓ H1 ι1 A1 _ (L.up U1) M1 (q1.bind fun b A2 ι2 H2 y U2 M2 v2 q2 => ?_)⟩
      split at q2
      · rename_i ys e
        split at q2
        · rename_i hl
          cases e1 : sq? b A2 with
          | none => rw [e1] at e; cases e
          | some xs =>
            rw [e1] at e
            obtain ⟨p, vs, rfl, h1, w1⟩ := sq_rd M2 e1 v2
            have e' := strsA_ok e w1
            subst e'
            exact ⟨z, p, ys, vr_str v1, rfl, by rw [hK]; exact h1, hl, q2.here M2 mk_str⟩
        · exact False.elim q2
      · exact False.elim q2
    | _ => exact False.elim q1)
end
end Sh


set_option Elab.async false
set_option linter.all false
set_option maxRecDepth 100000
set_option maxHeartbeats 4000000
namespace Sh
open PySem L2 PyProof.Rows
/-! ### instances -/
def AH.ins? (A : AH) (n : Nat) : Option (Str × List (Str × AV)) := match A[n]? with
  | some (.ins c fs) => some (c, fs)
  | _ => none
def putFA (f : Str) (v : AV) : List (Str × AV) → List (Str × AV)
  | [] => [(f, v)]
  | (g, x) :: r => if g = f then (g, v) :: r else (g, x) :: putFA f v r
def eFldG (tb : Str → Bool) (f : Str) (fo : EF) : EF := fun ℓ A => (fo ℓ A).bind fun a A => match a with
  | .ref n => match A.ins? n with
    | some (c, fs) => if tb c then (match fs.lookup f with | some v => .ok v A | none => .bad) else .bad
    | none => .bad
  | _ => .bad
def sFldS (tb : Str → Bool) (f : Str) (fv fo : EF) : SF := fun ℓ A => (fv ℓ A).toS ℓ fun v A => (fo ℓ A).toS ℓ fun a A => match a with
  | .ref n => match A.ins? n with
    | some (c, fs) => if tb c && decide (fs.length < 1000) then .nx ℓ (A.set n (.ins c (putFA f v fs))) else .bad
    | none => .bad
  | _ => .bad
def asNon (n : Nat) (v : AV) (A : AH) : Res AV := match v with
  | .non => .ok (.ref n) A
  | _ => .bad
def eMake (c : Str) (g : GF) (f : AF) : EF := fun ℓ A => (f ℓ A).bind fun as A => (gCall g (.ref A.length :: as) (A ++ [.ins c []])).bind fun v A' => asNon A.length v A'
/-- o.m(..): by the class of o -/
def eMeth (tb : Str → Option GF) (m : Str) (fo : EF) (fa : AF) : EF := fun ℓ A => (fo ℓ A).bind fun a A => match a with
  | .ref n => match A.ins? n with
    | some (c, fs) => (match tb c, fs.lookup m with
      | some g, none => (fa ℓ A).bind fun as A => gCall g (.ref n :: as) A
      | _, _ => .bad)
    | none => .bad
  | _ => .bad
section
variable {R : Rc} {X : Cx} {W : WX} {ι : List Addr} {H : Hp} {A : AH}
theorem ins_at {n : Nat} {c : Str} {fs : List (Str × AV)} (h : A.ins? n = some (c, fs)) : A[n]? = some (.ins c fs) := by
  unfold AH.ins? at h
  split at h
  · rename_i e; cases h; exact e
  · cases h
theorem ins_rd {n : Nat} {c : Str} {fs : List (Str × AV)} {a : Addr} (m : Emb R ι A H) (h : A.ins? n = some (c, fs)) (ha : ι[n]? = some a) : ∃ C dx fs', R.cl c = some C ∧ H a = some (.ins C dx fs') ∧ FR R ι H fs fs' := m.obj n _ a (ins_at h) ha
theorem FR.look' {f : Str} {v : AV} : ∀ {fs : List (Str × AV)} {gs : List (Str × V)}, FR R ι H fs gs → fs.lookup f = some v → ∃ x, gs.lookup f = some x ∧ VR R ι H v x
  | [], _, _, e => by cases e
  | (g, a) :: fs, gs, h, e => by
    unfold FR at h
    obtain ⟨x, r, rfl, q, t⟩ := h
    rw [List.lookup_cons] at e ⊢
    split at e
    · cases e
      exact ⟨x, rfl, q⟩
    · exact FR.look' t e
theorem FR.lookN {f : Str} : ∀ {fs : List (Str × AV)} {gs : List (Str × V)}, FR R ι H fs gs → fs.lookup f = none → gs.lookup f = none
  | [], _, h, e => by unfold FR at h; subst h; rfl
  | (g, a) :: fs, gs, h, e => by
    unfold FR at h
    obtain ⟨x, r, rfl, q, t⟩ := h
    rw [List.lookup_cons] at e ⊢
    split at e
    · cases e
    · exact FR.lookN t e
theorem FR.put {f : Str} {v : AV} {x : V} (hv : VR R ι H v x) : ∀ {fs : List (Str × AV)} {gs : List (Str × V)}, FR R ι H fs gs → FR R ι H (putFA f v fs) (putF f x gs)
  | [], _, h => by
    unfold FR at h
    subst h
    show FR R ι H [(f, v)] [(f, x)]
    unfold FR
    exact ⟨x, [], rfl, hv, by unfold FR; rfl⟩
  | (g, a) :: fs, gs, h => by
    unfold FR at h
    obtain ⟨y, r, rfl, q, t⟩ := h
    unfold putFA putF
    split
    · unfold FR
      exact ⟨x, r, rfl, hv, t⟩
    · unfold FR
      exact ⟨y, _, rfl, q, FR.put hv t⟩
theorem FR.len : ∀ {fs : List (Str × AV)} {gs : List (Str × V)}, FR R ι H fs gs → fs.length = gs.length
  | [], _, h => by unfold FR at h; subst h; rfl
  | (g, a) :: fs, gs, h => by
    unfold FR at h
    obtain ⟨y, r, rfl, q, t⟩ := h
    simp [FR.len t]
/-- what a table of fields says -/
def FldOk (R : Rc) (K : PySem.W.Frag) (tb : Str → Bool) (f : Str) : Prop := ∀ c, tb c = true → ∀ C, R.cl c = some C → Cls K C ∧ NoAttr K C f
theorem sim_fldG {ta : TE} {fo : EF} {tb : Str → Bool} {f : Str} (ht : FldOk R X.K tb f) (ho : Sim R (VR R) W ta fo) : Sim R (VR R) W (tFld X.K ta f) (eFldG tb f fo) := fun σ ℓ H ι A Q L M q =>
  ho σ ℓ H ι A _ L M (q.bind fun a A1 ι1 H1 x U1 M1 v1 q1 => by
    cases a with
    | ref n =>
      simp only at q1
      split at q1
      · rename_i c fs e
        split at q1
        · rename_i hc
          split at q1
          · rename_i v ev
            obtain ⟨p, hp, rfl⟩ := vr_ref v1
            obtain ⟨C, dx, fs', h1, h2, h3⟩ := ins_rd M1 e hp
            obtain ⟨y, h4, h5⟩ := h3.look' ev
            obtain ⟨k1, k2⟩ := ht c hc C h1
            exact ⟨p, C, dx, fs', y, rfl, h2, k1, k2, h4, q1.here M1 h5⟩
          · exact False.elim q1
        · exact False.elim q1
      · exact False.elim q1
    | _ => exact False.elim q1)
theorem simS_fldS {ta tv : TE} {fo fv : EF} {tb : Str → Bool} {f : Str} (ht : FldOk R X.K tb f) (ho : Sim R (VR R) W ta fo) (hv : Sim R (VR R) W tv fv) : SimS R W (sFld X.K ta tv f) (sFldS tb f fv fo) := fun D σ ℓ H ι A L M q =>
  hv σ ℓ H ι A _ L M (q.ofE L fun v A1 ι1 H1 y U1 M1 v1 L1 q1 => ho σ ℓ H1 ι1 A1 _ L1 M1 (q1.ofE L1 fun a A2 ι2 H2 x U2 M2 v2 L2 q2 => by
    cases a with
    | ref n =>
      simp only at q2
      split at q2
      · rename_i c fs e
        split at q2
        · rename_i hc
          rw [Bool.and_eq_true, decide_eq_true_eq] at hc
          obtain ⟨p, hp, rfl⟩ := vr_ref v2
          obtain ⟨C, dx, fs', h1, h2, h3⟩ := ins_rd M2 e hp
          obtain ⟨k1, k2⟩ := ht c hc.1 C h1
          refine ⟨p, C, dx, fs', rfl, h2, k1, k2, by rw [← h3.len]; exact hc.2, ?_⟩
          have v1' := v1.up U2
          obtain ⟨u, hu, mu⟩ := (M2.obj n _ p (ins_at e) hp).ho
          have U : Up R ι2 ι2 H2 (upd H2 p (.ins C dx (putF f y fs'))) := Up.upd hu mu (List.mem_of_getElem? hp)
          obtain ⟨_, M4⟩ := M2.set (w := .ins c (putFA f v fs)) (o := .ins C dx (putF f y fs')) (ins_at e) hp ⟨C, dx, _, h1, upd_same, (FR.put v1' h3).up U⟩
          exact q2 ι2 _ σ U M4 (L2.up U)
        · exact False.elim q2
      · exact False.elim q2
    | _ => exact False.elim q2))

/-! ### methods -/
structure MFacts (R : Rc) (X : Cx) (m : Str) (C f : Addr) (g : GF) (k : Nat) : Prop where
  c : Cls X.K C
  hm : Meth X.K C m f
  F : FnR X.prog X.w X.K X.mg X.base (L2.CX X.prog X.w) k f (SpG R g)
  hr : Room (k + 4) X.A
  x : ClsX X.K C
def tMethT (R : Rc) (X : Cx) (W : WX) (m : Str) (ta : TE) (t : TA) : TE := fun σ H Q => ta σ H fun x H1 => ∃ (C f : Addr) (g : GF) (k : Nat), MFacts R X m C f g k ∧
  ∃ a dx fs, x = .ref a ∧ H1 a = some (.ins C dx fs) ∧ fs.lookup m = none ∧ t σ H1 fun vs H2 => SpG R g (x :: vs) H2 Q (fun c d H' => W c d σ H')
theorem pe_methT {o e : Expr} {es : List Expr} {ta : TE} {t : TA} {m : Str} {apos pos : Pos} {pl : Sem Bool} (he : PE X o ta) (tk : Takes X W) (ha : PA X (e :: es) t)
    (hst : starEach (e :: es) X.env = (false, eval e X.env) :: starEach es X.env) (hpl : (backTo pos (starEach es X.env)).any (·.1) = false)
    (ht : eval (.Call (.Attribute o m apos) (e :: es) [] pos) X.env = (do
      let ov ← eval o X.env
      standAt apos.atName
      let (f, first) ← holding [ov] (getMethod ov m pl)
      callWith pos f first (backTo pos (starEach (e :: es) X.env)) (backToKw pos (keywordEach [] X.env)))) :
    PE X (.Call (.Attribute o m apos) (e :: es) [] pos) (tMethT R X W m ta t) := by
  refine ⟨fun pins s σ H Q I h => ?_⟩
  refine PySem.W.methodCall_KW (pl := pl) (thn (he.run pins s σ H _ I h) fun u s1 ⟨x, H1, I1, rx, C, f, g, k, ⟨c, hm, F, hr, _⟩, a, dx, fs, ex, ea, l, q⟩ => ?_) ht
  subst ex
  obtain rfl : u = Value.ref a := rx
  refine getmeth_ok I1 ea c hm l ?_
  refine PySem.W.callWith_K (first := [.ref a]) (h₀ := X.base) I.ok.mod.kin hm.kp (thn (ha.run pos pins s1 σ H1 _ I1 q) fun us s2 ⟨vs, H2, I2, r, q2⟩ => ⟨I2.kIn, ?_⟩) hst hpl
  exact run_fnRS (E := fun σ c d H' => W c d σ H') (us := .ref a :: us) (vs := .ref a :: vs) F (hr.mono (by omega)) (passAt tk σ) I2 (.cons rfl r) q2
theorem pe_methT0 {o : Expr} {ta : TE} {m : Str} {apos pos : Pos} {pl : Sem Bool} (he : PE X o ta) (tk : Takes X W)
    (ht : eval (.Call (.Attribute o m apos) [] [] pos) X.env = (do
      let ov ← eval o X.env
      standAt apos.atName
      let (f, first) ← holding [ov] (getMethod ov m pl)
      callWith pos f first (backTo pos (starEach [] X.env)) (backToKw pos (keywordEach [] X.env)))) :
    PE X (.Call (.Attribute o m apos) [] [] pos) (tMethT R X W m ta tNil) := by
  refine ⟨fun pins s σ H Q I h => ?_⟩
  refine PySem.W.methodCall_KW (pl := pl) (thn (he.run pins s σ H _ I h) fun u s1 ⟨x, H1, I1, rx, C, f, g, k, ⟨c, hm, F, hr, _⟩, a, dx, fs, ex, ea, l, q⟩ => ?_) ht
  subst ex
  obtain rfl : u = Value.ref a := rx
  refine getmeth_ok I1 ea c hm l ?_
  exact PySem.W.callWith_K0 (first := [.ref a]) I1.kIn hm.kp (run_fnRS (E := fun σ c d H' => W c d σ H') (us := [.ref a]) (vs := [.ref a]) F (hr.mono (by omega)) (passAt tk σ) I1 (.cons rfl .nil) q)
def MethOk (R : Rc) (X : Cx) (tb : Str → Option GF) (m : Str) : Prop := ∀ c g, tb c = some g → ∃ C f k, R.cl c = some C ∧ MFacts R X m C f g k
theorem sim_meth {tb : Str → Option GF} {m : Str} {ta : TE} {fo : EF} {t : TA} {fa : AF} (hT : MethOk R X tb m) (ho : Sim R (VR R) W ta fo) (ha : Sim R (VRs R) W t fa) : Sim R (VR R) W (tMethT R X W m ta t) (eMeth tb m fo fa) := fun σ ℓ H ι A Q L M q =>
  ho σ ℓ H ι A _ L M (q.bind fun a A1 ι1 H1 x U1 M1 v1 q1 => by
    cases a with
    | ref n =>
      simp only at q1
      split at q1
      · rename_i c fs e1
        split at q1
        · rename_i g e2 e3
          obtain ⟨C, f, k, hC, MF⟩ := hT c g e2
          obtain ⟨p, hp, rfl⟩ := vr_ref v1
          obtain ⟨C', dx, fs', h1, h2, h3⟩ := ins_rd M1 e1 hp
          have : C' = C := by rw [hC] at h1; exact (Option.some.inj h1).symm
          subst this
          refine ⟨C', f, g, k, MF, p, dx, fs', rfl, h2, h3.lookN e3, ?_⟩
          exact ha σ ℓ H1 ι1 A1 _ (L.up U1) M1 (q1.bind fun as A2 ι2 H2 xs U2 M2 v2 q2 => ⟨ι2, A2, .ref n :: as, M2, by unfold VRs; exact ⟨.ref p, xs, rfl, mk_ref (U2.at hp), v2⟩, q2⟩)
        · exact False.elim q1
      · exact False.elim q1
    | _ => exact False.elim q1)
/-! ### new instances -/
structure KFacts (R : Rc) (X : Cx) (C f : Addr) (g : GF) (k : Nat) : Prop where
  M : Mk X.K C f
  F : FnR X.prog X.w X.K X.mg X.base (L2.CX X.prog X.w) k f (SpG R g)
  hr : Room (k + 1) X.A
def tMakeT (C : Addr) (sp : Sp) (W : WX) (t : TA) : TE := fun σ H Q => t σ H fun vs H1 => ∀ x dx, H1 x = none → H1 dx = none → dx ≠ x →
  sp (.ref x :: vs) (upd (upd H1 dx (.own x)) x (.ins C dx [])) (fun v H2 => v = .non ∧ Q (.ref x) H2) (fun c d H' => W c d σ H')

theorem run_makeSD {C f : Addr} {sp : Sp} {k : Nat} {E : L2.St → XK} {CX : CXT} {pins : List (Addr × Obj)} {σ : L2.St} {H : Hp} {s : Shared} {Q : VK} {us : List Value} {vs : List V} (M : Mk X.K C f) (F : FnR X.prog X.w X.K X.mg X.base CX k f sp) (hr : Room (k + 1) X.A)
    (hx : PassesAt CX X σ (E σ)) (I : Inv X pins σ H s) (r : Vals vs us)
    (h : ∀ x dx, H x = none → H dx = none → dx ≠ x → sp (.ref x :: vs) (upd (upd H dx (.own x)) x (.ins C dx [])) (fun v H2 => v = .non ∧ Q (.ref x) H2) (E σ)) :
    wpAny (model X.prog X.w) X.A (call (.ref C) us) (EP X pins σ Q) X.xe s := by
  have hq := h (s.heap.objs.size + 1) s.heap.objs.size (I.hok.fresh (Nat.le_succ _)) (I.hok.fresh (Nat.le_refl _)) (Nat.ne_of_lt (Nat.lt_succ_self _))
  have I2 := Inv.made (C := C) I
  have r2 : Vals (V.ref (s.heap.objs.size + 1) :: vs) (Value.ref (s.heap.objs.size + 1) :: us) := .cons rfl r
  refine wpAny_call (make_map (f := f) I.kIn M.makes M.init (beq_iff_eq.mp M.fn) (codeAny_mono (F.go (us := Value.ref (s.heap.objs.size + 1) :: us) (E := E σ) (hr.make C us [])
    (I2.env0.make C us []) r2 hq) fun r s' hq' => ?_))
  cases r with
  | error e => exact hx pins _ _ e s' I2 hq'
  | ok fl =>
    cases fl with
    | ret u =>
      obtain ⟨v, H', I3, rv, ev, q3⟩ := I2.after hq'
      subst ev
      exact ⟨rv, ⟨V.ref (s.heap.objs.size + 1), H', I3, rfl, q3⟩⟩
    | next => exact False.elim hq'
    | brk => exact False.elim hq'
    | cont => exact False.elim hq'
theorem pe_makeT {C f : Addr} {g : GF} {k : Nat} {x : Str} {p pos : Pos} {e : Expr} {es : List Expr} {t : TA} (KF : KFacts R X C f g k) (hg : Gl X x) (hm : X.mg x = some (.ref C)) (tk : Takes X W)
    (ha : PA X (e :: es) t) (hdb : (x == ("__debug__" : Str)) = false) (he : starEach (e :: es) X.env = (false, eval e X.env) :: starEach es X.env) (hpl : (backTo pos (starEach es X.env)).any (·.1) = false) :
    PE X (.Call (.Name x p) (e :: es) [] pos) (tMakeT C (SpG R g) W t) := by
  refine ⟨fun pins s σ H Q I h => ?_⟩
  refine wpAny_Call_Name_kw (ld_glob I hg hm ?_ hdb)
  refine PySem.W.callWith_K (h₀ := X.base) I.ok.mod.kin KF.M.kp (thn (ha.run pos pins s σ H _ I h) fun us s1 ⟨vs, H1, I1, r, q⟩ => ⟨I1.kIn, ?_⟩) he hpl
  exact run_makeSD (E := fun σ c d H' => W c d σ H') KF.M KF.F KF.hr (passAt tk σ) I1 r q
theorem pe_makeT0 {C f : Addr} {g : GF} {k : Nat} {x : Str} {p pos : Pos} (KF : KFacts R X C f g k) (hg : Gl X x) (hm : X.mg x = some (.ref C)) (tk : Takes X W) (hdb : (x == ("__debug__" : Str)) = false) :
    PE X (.Call (.Name x p) [] [] pos) (tMakeT C (SpG R g) W tNil) := by
  refine ⟨fun pins s σ H Q I h => ?_⟩
  refine wpAny_Call_Name_kw (ld_glob I hg hm ?_ hdb)
  exact PySem.W.callWith_K0 I.kIn KF.M.kp (run_makeSD (E := fun σ c d H' => W c d σ H') (us := []) KF.M KF.F KF.hr (passAt tk σ) I .nil h)
theorem sim_make {c : Str} {g : GF} {C : Addr} {t : TA} {fa : AF} (hC : R.cl c = some C) (ha : Sim R (VRs R) W t fa) : Sim R (VR R) W (tMakeT C (SpG R g) W t) (eMake c g fa) := fun σ ℓ H ι A Q L M q =>
  ha σ ℓ H ι A _ L M (q.bind fun as A1 ι1 H1 xs U1 M1 v1 q1 => by
    refine fun x dx hx hdx hne => ?_
    have hx2 : (upd H1 dx (.own x)) x = none := by rw [upd_ne (Ne.symm hne)]; exact hx
    have U2 : Up R ι1 ι1 H1 (upd H1 dx (.own x)) := Up.laid hdx
    have M2 : Emb R ι1 A1 (upd H1 dx (.own x)) := M1.laid hdx
    have U3 : Up R ι1 (ι1 ++ [x]) (upd H1 dx (.own x)) (upd (upd H1 dx (.own x)) x (.ins C dx [])) := Up.grow hx2
    have M3 : Emb R (ι1 ++ [x]) (A1 ++ [.ins c []]) (upd (upd H1 dx (.own x)) x (.ins C dx [])) := M2.grow hx2 ⟨C, dx, [], hC, upd_same, by unfold FR; rfl⟩
    have U13 := U2.trans U3
    have hn : (ι1 ++ [x])[A1.length]? = some x := by rw [← M1.len]; simp
    have vs : VRs R (ι1 ++ [x]) (upd (upd H1 dx (.own x)) x (.ins C dx [])) (.ref A1.length :: as) (.ref x :: xs) := by
      unfold VRs
      exact ⟨.ref x, xs, rfl, mk_ref hn, v1.up U13⟩
    have q2 := Then.up U13 q1
    refine ⟨ι1 ++ [x], A1 ++ [.ins c []], .ref A1.length :: as, M3, vs, ?_⟩
    refine q2.bind fun v A4 ι4 H4 y U4 M4 v4 q4 => ?_
    cases v with
    | non => exact ⟨vr_non v4, q4.here M4 (mk_ref (U4.at hn))⟩
    | _ => exact False.elim q4)

theorem meth_eq {o : Expr} {m : Str} {apos pos : Pos} {es : List Expr} {env : Env} (hb : attributeBase o m env (eval o env) = eval o env) (hf : methodCallForm (es.length + 0) (backTo pos (starEach es env)) (backToKw pos (keywordEach [] env)) = true) (hl : (apos.endLine == pos.line) = true) :
    eval (.Call (.Attribute o m apos) es [] pos) env = (do
      let ov ← eval o env
      standAt apos.atName
      let (f, first) ← holding [ov] (getMethod ov m (do return (← importBound o env).getD true))
      callWith pos f first (backTo pos (starEach es env)) (backToKw pos (keywordEach [] env))) := by
  show (attributeBase o m env (eval o env) >>= fun ov => standAt apos.atName >>= fun _ => methodCall o m apos pos env ov (es.length + 0) (backTo pos (starEach es env)) (backToKw pos (keywordEach [] env))) = _
  rw [hb]
  unfold methodCall calleeOf methodCallPos
  rw [hf]
  simp only [hl, if_true, Bool.not_true, Bool.false_or]
  rfl
end
end Sh

set_option Elab.async false
set_option linter.all false
set_option maxRecDepth 100000
set_option maxHeartbeats 4000000
/-! enumerate of a text, of a tuple -/
namespace Sh
open PySem PySem.Spec L2 PyProof.Rows
theorem draws_tup {prog : Program} {w : World} {A : Around} (hh : A.handled = none) (it l : Addr) (hne : l ≠ it) (items : Array Value) :
    Draws prog w A it [it, l] items.size (fun i v => items[i]? = some v) (fun i h => h.IsTupleIter it l i ∧ h.IsTuple l items) where
  live := fun _ _ st => let ⟨o, ho, _⟩ := st.1; ⟨o, ho⟩
  frame := fun _ _ _ st hk => ⟨let ⟨o, ho, r⟩ := st.1; ⟨o, hk it (by simp) o ho, r⟩, let ⟨o, ho, r⟩ := st.2; ⟨o, hk l (by simp) o ho, r⟩⟩
  item := fun i s Q E hi st hQ => by
    refine wpAny_nextOf_tuple_item st.1 st.2 (x := items[i]) (by simp [hi]) fun h' hit' hs' => ?_
    obtain ⟨o, ho, r⟩ := st.2
    exact hQ _ h' s.toks (by simp [hi]) ⟨hit', ⟨o, (hs'.2 l hne).trans ho, r⟩⟩ hs'
  done := fun s Q E st hE => wpAny_nextOf_tuple_end hh st.1 st.2 (by simp) hE
set_option maxHeartbeats 8000000 in
theorem meets_enum_newT (l : Addr) (items : Array Value) (n : Nat) (dct : Option Addr) (sl : Array (Option Value)) :
    Meets (Builtin.«enumerate.__new__» ⟨[.type "enumerate", .ref l], []⟩) (fun _ R s => s.heap.get? l = some { cls := .type "tuple", dict := dct, data := .seq items n, slots := sl } ∧
      R (.ok (.ret (.ref (s.heap.push { cls := .type "tuple_iterator", data := .fields #[.ref l, .int 0 0] }).objs.size)))
        { s with heap := (s.heap.push { cls := .type "tuple_iterator", data := .fields #[.ref l, .int 0 0] }).push { cls := .type "enumerate", data := .fields #[.none, .bool false, .ref s.heap.objs.size, rawInt 0, .none, .none] } }) :=
  .of_wp fun prog w A R s h => by
    obtain ⟨hp, g, d, tk, os⟩ := s; obtain ⟨hl, h⟩ := h
    have hsub := sub_enumerate
    have hL : Heap.IsTuple (Shared.heap ⟨hp, g, d, tk, os⟩) l items := ⟨_, hl, rfl, n, rfl⟩
    wp_walk using AutoSeq1.wpAny_loadPart' hl
    refine wpAny_stack_any fun st => wpAny_pure ?_
    split
    · rename_i c _ _ _ _ _
      cases (c == Value.type "enumerate")
      · wp_walk using AutoSeq1.wpAny_loadPart' hl, wpAny_pyIter_tuple hL
        exact ⟨_, rfl, h⟩
      · wp_walk using AutoSeq1.wpAny_loadPart' hl, wpAny_pyIter_tuple hL
        exact ⟨_, rfl, h⟩
    · wp_walk using AutoSeq1.wpAny_loadPart' hl, wpAny_pyIter_tuple hL
      exact ⟨_, rfl, h⟩
theorem call_enum_tup {prog : Program} {w : World} {A : Around} {E : Value → Shared → Prop} {s : Shared} {l : Addr} {items : Array Value} {Q : Value → Shared → Prop} (hL : s.heap.IsTuple l items)
    (h : ∀ h', IsEnum h' (s.heap.objs.size + 1) s.heap.objs.size 0 .none → h'.IsTupleIter s.heap.objs.size l 0 → h'.objs.size = s.heap.objs.size + 2 →
      (∀ b o, s.heap.get? b = some o → h'.get? b = some o) → Q (.ref (s.heap.objs.size + 1)) { s with heap := h' }) :
    wpAny (model prog w) A (call (.type "enumerate") [.ref l]) Q E s := by
  obtain ⟨⟨c, dct, dt, sl⟩, hl, hc, n, hd⟩ := hL
  replace hc : c = .type "tuple" := hc
  replace hd : dt = .seq items n := hd
  subst hc hd
  refine callType_new F.called_enumerate (by decide) (F.typeCall_enumerate_1 _) (F.newCall_enumerate_1 _) (fun obj => F.args_object_init_2 obj _) F.entry_enumerate_new
    (meets_enum_newT l items n dct sl) ⟨hl, ?_⟩
  have hz : (s.heap.push { cls := .type "tuple_iterator", data := .fields #[.ref l, .int 0 0] }).objs.size = s.heap.objs.size + 1 := Heap.size_push ..
  show _ ∧ _
  rw [hz]
  have he : IsEnum ((s.heap.push { cls := .type "tuple_iterator", data := .fields #[.ref l, .int 0 0] }).push
      { cls := .type "enumerate", data := .fields #[.none, .bool false, .ref s.heap.objs.size, rawInt 0, .none, .none] }) (s.heap.objs.size + 1) s.heap.objs.size 0 .none := by
    have := Heap.get?_push_size (s.heap.push { cls := .type "tuple_iterator", data := .fields #[.ref l, .int 0 0] })
      (o := { cls := .type "enumerate", data := .fields #[.none, .bool false, .ref s.heap.objs.size, rawInt 0, .none, .none] }) rfl
    rw [hz] at this; exact this
  refine ⟨⟨_, he, rfl⟩, h _ he ⟨_, Heap.get?_push_of_some _ (Heap.get?_push_size _ rfl), rfl, rfl⟩ (by rw [Heap.size_push, hz]) fun b o x => Heap.get?_push_of_some _ (Heap.get?_push_of_some _ x)⟩
/-- the items x0, x1, .. of a walk that stands still, each in a new pair -/
def ItP (G : Nat → Hp → V → Prop) (N : Nat → Hp → Prop) : It :=
  ⟨fun i H => ∃ x, G i H x, fun i H v H' => ∃ T x, v = .ref T ∧ H T = none ∧ H' = upd H T (.tup [.int (i : Nat), x]) ∧ G i H x, fun i H => N i H⟩
def ItES (x : Str) : It := ItP (fun i _ v => ∃ c, x.cps[i]? = some c ∧ v = .str ⟨#[c]⟩) fun i _ => x.cps.size = i
def ItET (K : PySem.W.Frag) (a : Addr) : It := ⟨fun i H => ∃ (xs : List V) (x : V), SqT K H a xs ∧ xs[i]? = some x, fun i H v H' => ∃ T x, v = .ref T ∧ H T = none ∧ H' = upd H T (.tup [.int (i : Nat), x]) ∧ ∀ xs : List V, SqT K H a xs → xs[i]? = some x, fun i H => ∃ xs : List V, SqT K H a xs ∧ xs.length = i⟩
section
variable {P : Program} {w : World} {K : PySem.W.Frag} {elts : List Expr} {kk : Nat} {tpos : Pos}
theorem turn_enumS (e it : Addr) (x : Str) (t : Tok) : Turn P w K (.Tuple elts kk tpos) (ItES x) [e, it] e (fun i h => (∃ old, IsEnum h e it ((i : Nat) : Int) old) ∧ h.IsStrIter it (strIterType x) x t i ∧ e ≠ it) where
  mem := by simp
  obj := fun i h st b hb => by
    obtain ⟨⟨old, he⟩, ⟨o, ho, hc, hd⟩, _⟩ := st
    have e' : b = e ∨ b = it := by simpa using hb
    rcases e' with z | z
    · rw [z]; exact ⟨_, he, fun v q => nomatch q⟩
    · rw [z]; exact ⟨o, ho, fun v q => by rw [hd] at q; cases q⟩
  keep := fun i h h' st k => let ⟨⟨old, he⟩, ⟨o, ho, r⟩, hne⟩ := st; ⟨⟨old, k e (by simp) _ he⟩, ⟨o, k it (by simp) o ho, r⟩, hne⟩
  item := by
    intro X hP hw hK hc i pins s σ H E I hf st hg
    subst hP hw hK
    obtain ⟨⟨old, he⟩, hit, hne⟩ := st
    obtain ⟨v0, c0, hc0, rfl⟩ := hg
    have hi : i < x.cps.size := by
      by_cases h : i < x.cps.size
      · exact h
      · rw [Array.getElem?_eq_none (by omega)] at hc0; cases hc0
    have hel : e < s.heap.objs.size := Heap.lt_size he
    have hil : it < s.heap.objs.size := by obtain ⟨_, q, _⟩ := hit; exact Heap.lt_size q
    have D : Draws X.prog X.w X.A.in1 it [it] x.cps.size (fun i v => ∃ c u, x.cps[i]? = some c ∧ v = .str ⟨#[c]⟩ u) (fun i h => h.IsStrIter it (strIterType x) x t i) := by
      unfold strIterType
      split
      · exact Draws.strAscii (A := X.A.in1) (show X.A.in1.handled = none from I.ok.hd hc) it x t
      · exact Draws.strWide (A := X.A.in1) (show X.A.in1.handled = none from I.ok.hd hc) it x t
    refine wpAny_pyNext_enum_itemD D he hit hi hne (by simpa using hne) fun y h' tk ⟨c, u, hcx, ey⟩ ho hit' hT hsz hk => ?_
    subst ey
    refine ⟨_, rfl, wpAny_letOwnedTupleGo_enum (s := { s with heap := h', toks := tk + 1 }) ho fun h'' he' sb => ?_⟩
    have hT2 : h''.get? s.heap.objs.size = some { cls := .type "tuple", data := .seq #[.int i tk, .str ⟨#[c]⟩ u] } := (sb.2 _ (Nat.ne_of_gt hel)).trans hT
    have new : ObjOk X.prog X.w (upd H s.heap.objs.size (.tup [.int (i : Nat), .str ⟨#[c]⟩])) h'' s.heap.objs.size (.tup [.int (i : Nat), .str ⟨#[c]⟩]) :=
      ⟨by show 2 ≤ sizeLine; decide, [.int i tk, .str ⟨#[c]⟩ u], .cons ⟨_, rfl⟩ (.cons ⟨_, rfl⟩ .nil), ⟨_, hT2, rfl, _, rfl⟩⟩
    have I1 : Inv X pins σ (upd H s.heap.objs.size (.tup [.int (i : Nat), .str ⟨#[c]⟩])) { s with heap := h'', toks := tk + 1 } :=
      I.turnedNew (ch := [e, it]) (fun b ob hb q => (sb.2 b (fun z => hb (by simp [z]))).trans (hk b ob (fun z => hb (by simp [z])) (fun z => hb (by simp [z])) q)) hf (Nat.le_refl _) new
    refine ⟨.ref s.heap.objs.size, _, I1, rfl, ⟨_, _, rfl, I.hok.fresh (Nat.le_refl _), rfl, ⟨c, hcx, rfl⟩⟩, ⟨⟨.str ⟨#[c]⟩ u, ?_⟩, ?_, hne⟩, fun b hb => ?_⟩
    · have e1 : ((i + 1 : Nat) : Int) = (i : Int) + 1 := by omega
      rw [e1]; exact he'
    · obtain ⟨o, q1, r⟩ := hit'
      exact ⟨o, (sb.2 it (Ne.symm hne)).trans q1, r⟩
    · have hb' : b < s.heap.objs.size := by
        have e' : b = e ∨ b = it := by simpa using hb
        rcases e' with z | z
        · rw [z]; exact hel
        · rw [z]; exact hil
      rw [upd_ne (Nat.ne_of_lt hb')]
      exact (hf b hb).1
  done := by
    intro X hP hw hK hc i pins s σ H E I hf st hg
    subst hP hw hK
    obtain ⟨⟨old, he⟩, hit, hne⟩ := st
    have hg' : x.cps.size = i := hg
    obtain ⟨f0, f1, f2, f3, f4, f5⟩ := hf it (by simp)
    have D : Draws X.prog X.w X.A.in1 it [it] x.cps.size (fun i v => ∃ c u, x.cps[i]? = some c ∧ v = .str ⟨#[c]⟩ u) (fun i h => h.IsStrIter it (strIterType x) x t i) := by
      unfold strIterType
      split
      · exact Draws.strAscii (A := X.A.in1) (show X.A.in1.handled = none from I.ok.hd hc) it x t
      · exact Draws.strWide (A := X.A.in1) (show X.A.in1.handled = none from I.ok.hd hc) it x t
    rw [← hg'] at hit
    exact wpAny_pyNext_enum_endD D he hit fun h' eb => ⟨rfl, I.turned (t' := s.toks) (fun b o hb q => eb b o hb q) f0 f1 f3 f4 f5⟩
  self := fun A i s Q E st h => let ⟨⟨_, he⟩, _⟩ := st; wpAny_pyIter_enum he h
theorem turn_enumT (a e it : Addr) : Turn P w K (.Tuple elts kk tpos) (ItET K a) [e, it] e (fun i h => (∃ old, IsEnum h e it ((i : Nat) : Int) old) ∧ h.IsTupleIter it a i ∧ e ≠ it ∧ a ≠ it ∧ a ≠ e) where
  mem := by simp
  obj := fun i h st b hb => by
    obtain ⟨⟨old, he⟩, ⟨o, ho, hc, hd⟩, _⟩ := st
    have e' : b = e ∨ b = it := by simpa using hb
    rcases e' with z | z
    · rw [z]; exact ⟨_, he, fun v q => nomatch q⟩
    · rw [z]; exact ⟨o, ho, fun v q => by rw [hd] at q; cases q⟩
  keep := fun i h h' st k => let ⟨⟨old, he⟩, ⟨o, ho, r⟩, hne⟩ := st; ⟨⟨old, k e (by simp) _ he⟩, ⟨o, k it (by simp) o ho, r⟩, hne⟩
  item := by
    intro X hP hw hK hc i pins s σ H E I hf st hg
    subst hP hw hK
    obtain ⟨⟨old, he⟩, hit, hne, hai, hae⟩ := st
    obtain ⟨xs, v0, hq, hx⟩ := hg
    obtain ⟨its, rv, p, hz⟩ := I.tuple hq
    obtain ⟨u, hu, ru⟩ := rv.get hx
    have hi : i < its.toArray.size := by
      have := (List.getElem?_eq_some_iff.mp hu).1
      simpa using this
    have hel : e < s.heap.objs.size := Heap.lt_size he
    have hil : it < s.heap.objs.size := by obtain ⟨_, q, _⟩ := hit; exact Heap.lt_size q
    have pt : s.heap.IsTuple a its.toArray := p
    refine wpAny_pyNext_enum_itemD (draws_tup (A := X.A.in1) (show X.A.in1.handled = none from I.ok.hd hc) it a hai its.toArray) he ⟨hit, pt⟩ hi hne (by simp [hne, Ne.symm hae]) fun y h' tk hy ho hit' hT hsz hk => ?_
    have ey : y = u := by
      have h1 : its.toArray[i]? = some y := hy
      rw [List.getElem?_toArray, hu] at h1
      exact (Option.some.inj h1).symm
    subst ey
    refine ⟨_, rfl, wpAny_letOwnedTupleGo_enum (s := { s with heap := h', toks := tk + 1 }) ho fun h'' he' sb => ?_⟩
    have hT2 : h''.get? s.heap.objs.size = some { cls := .type "tuple", data := .seq #[.int i tk, y] } := (sb.2 _ (Nat.ne_of_gt hel)).trans hT
    have new : ObjOk X.prog X.w (upd H s.heap.objs.size (.tup [.int (i : Nat), v0])) h'' s.heap.objs.size (.tup [.int (i : Nat), v0]) :=
      ⟨by show 2 ≤ sizeLine; decide, [.int i tk, y], .cons ⟨_, rfl⟩ (.cons ru .nil), ⟨_, hT2, rfl, _, rfl⟩⟩
    have I1 : Inv X pins σ (upd H s.heap.objs.size (.tup [.int (i : Nat), v0])) { s with heap := h'', toks := tk + 1 } :=
      I.turnedNew (ch := [e, it]) (fun b ob hb q => (sb.2 b (fun z => hb (by simp [z]))).trans (hk b ob (fun z => hb (by simp [z])) (fun z => hb (by simp [z])) q)) hf (Nat.le_refl _) new
    refine ⟨.ref s.heap.objs.size, _, I1, rfl, ⟨_, _, rfl, I.hok.fresh (Nat.le_refl _), rfl, fun ys hy => by rw [I.tuple_inj hy hq]; exact hx⟩, ⟨⟨y, ?_⟩, ?_, hne, hai, hae⟩, fun b hb => ?_⟩
    · have e1 : ((i + 1 : Nat) : Int) = (i : Int) + 1 := by omega
      rw [e1]; exact he'
    · obtain ⟨o, q1, r⟩ := hit'.1
      exact ⟨o, (sb.2 it (Ne.symm hne)).trans q1, r⟩
    · have hb' : b < s.heap.objs.size := by
        have e' : b = e ∨ b = it := by simpa using hb
        rcases e' with z | z
        · rw [z]; exact hel
        · rw [z]; exact hil
      rw [upd_ne (Nat.ne_of_lt hb')]
      exact (hf b hb).1
  done := by
    intro X hP hw hK hc i pins s σ H E I hf st hg
    subst hP hw hK
    obtain ⟨⟨old, he⟩, hit, hne, hai, hae⟩ := st
    obtain ⟨xs, hq, hx⟩ := hg
    obtain ⟨its, rv, p, hz⟩ := I.tuple hq
    obtain ⟨f0, f1, f2, f3, f4, f5⟩ := hf it (by simp)
    have hl := rv.length
    have pt : s.heap.IsTuple a its.toArray := p
    have en : its.toArray.size = i := by rw [List.size_toArray]; omega
    rw [← en] at hit
    exact wpAny_pyNext_enum_endD (draws_tup (A := X.A.in1) (show X.A.in1.handled = none from I.ok.hd hc) it a hai its.toArray) he ⟨hit, pt⟩ fun h' eb => ⟨rfl, I.turned (t' := s.toks) (fun b o hb q => eb b o hb q) f0 f1 f3 f4 f5⟩
  self := fun A i s Q E st h => let ⟨⟨_, he⟩, _⟩ := st; wpAny_pyIter_enum he h
end
def iEnumA (K : PySem.W.Frag) (ta : TA) : TI := fun σ H R => ta σ H fun vs H1 => (∃ a xs, vs = [.ref a] ∧ SqL K H1 a xs ∧ R (Ite K a) H1) ∨ (∃ a xs, vs = [.ref a] ∧ SqT K H1 a xs ∧ R (ItET K a) H1) ∨ ∃ x, vs = [.str x] ∧ R (ItES x) H1
theorem pi_enumA {X : Cx} {e : Expr} {ta : TA} {p pos tpos : Pos} {elts : List Expr} {kk : Nat} (hg : Gl X "enumerate") (hm : X.mg "enumerate" = none) (ha : PA X [e] ta) (hs : starEach [e] X.env = [(false, eval e X.env)] := by rfl) :
    PI X (.Tuple elts kk tpos) (.Call (.Name "enumerate" p) [e] [] pos) (iEnumA X.K ta) := by
  refine ⟨fun pins s σ H R I h => ?_⟩
  refine Call_ (ld_blt I hg hm boot_enumerate (PyProof.Rows.callWith_type1 (thn (ha.run pos pins s σ H _ I h) fun us s1 ⟨vs, H1, I1, r1, q1⟩ => ?_) hs rfl))
  have fresh2 : ∀ b ∈ [s1.heap.objs.size + 1, s1.heap.objs.size], FpOk X pins H1 b := fun b hb => by
    have e' : b = s1.heap.objs.size + 1 ∨ b = s1.heap.objs.size := by simpa using hb
    have hle : s1.heap.objs.size ≤ b := by
      rcases e' with z | z
      · rw [z]; exact Nat.le_add_right _ _
      · rw [z]; exact Nat.le_refl _
    exact I1.fpOk hle (I1.hok.fresh hle)
  rcases q1 with ⟨a, xs, ex, hq, q⟩ | ⟨a, xs, ex, hq, q⟩ | ⟨x, ex, q⟩
  · subst ex
    cases r1 with
    | cons r rr =>
      cases rr
      cases r
      obtain ⟨its, rv, p', hz⟩ := I1.list hq
      refine call_enumerate_list p'.isList fun h' he hit hsz hk => wpAny_pyIter_enum he ?_
      have I2 : Inv X pins σ H1 { s1 with heap := h' } := I1.kept (t' := s1.toks) hk
      exact ⟨s1.heap.objs.size + 1, [s1.heap.objs.size + 1, s1.heap.objs.size], _, _, H1, rfl, I2, turn_enum a (s1.heap.objs.size + 1) s1.heap.objs.size, ⟨⟨.none, he⟩, hit, Nat.succ_ne_self _⟩, fresh2, q⟩
  · subst ex
    cases r1 with
    | cons r rr =>
      cases rr
      cases r
      obtain ⟨its, rv, p', hz⟩ := I1.tuple hq
      have pt : s1.heap.IsTuple a its.toArray := p'
      have hlt : a < s1.heap.objs.size := by obtain ⟨o, ho, _⟩ := pt; exact Heap.lt_size ho
      refine call_enum_tup pt fun h' he hit hsz hk => wpAny_pyIter_enum he ?_
      have I2 : Inv X pins σ H1 { s1 with heap := h' } := I1.kept (t' := s1.toks) hk
      exact ⟨s1.heap.objs.size + 1, [s1.heap.objs.size + 1, s1.heap.objs.size], _, _, H1, rfl, I2, turn_enumT a (s1.heap.objs.size + 1) s1.heap.objs.size, ⟨⟨.none, he⟩, hit, Nat.succ_ne_self _, Nat.ne_of_lt hlt, Nat.ne_of_lt (Nat.lt_succ_of_lt hlt)⟩, fresh2, q⟩
  · subst ex
    cases r1 with
    | cons r rr =>
      cases rr
      obtain ⟨t, rfl⟩ := r
      refine call_enumerate_str fun h' he hit hsz hk => wpAny_pyIter_enum he ?_
      have I2 : Inv X pins σ H1 { s1 with heap := h' } := I1.kept (t' := s1.toks) hk
      exact ⟨s1.heap.objs.size + 1, [s1.heap.objs.size + 1, s1.heap.objs.size], _, _, H1, rfl, I2, turn_enumS (s1.heap.objs.size + 1) s1.heap.objs.size x t, ⟨⟨.none, he⟩, hit, Nat.succ_ne_self _⟩, fresh2, q⟩
end Sh

set_option Elab.async false
set_option linter.all false
set_option maxRecDepth 100000
set_option maxHeartbeats 4000000
/-! enumerate, zip as walks; further built-in functions and methods -/
namespace Sh
open PySem PySem.Spec L2 PyProof.Rows
def wEnP (xs : List AV) : Walk := ⟨xs.length, fun i _ => (xs[i]?).map fun v => .tup [.int (i : Int), v], fun _ => true⟩
def wEnL (n : Nat) (xs : List AV) : Walk := ⟨xs.length, fun i A => ((A.lst? n).bind fun ys => ys[i]?).map fun v => .tup [.int (i : Int), v], fun A => match A.lst? n with | some ys => ys.length == xs.length | none => false⟩
def enR (a : AV) (A : AH) : Res Walk := match a with
  | .tup xs => .ok (wEnP xs) A
  | .ref n => (match A.lst? n with | some xs => .ok (wEnL n xs) A | none => .bad)
  | .str x => .ok (wEnP (signsA x)) A
  | _ => .bad
def iEnumF (f : EF) : IF := fun ℓ A => (f ℓ A).bind enR
def wZpP (xs ys : List AV) : Walk := ⟨min xs.length ys.length, fun i _ => (xs[i]?).bind fun v => (ys[i]?).map fun u => .tup [v, u], fun _ => true⟩
def wZpL (n m : Nat) (xs ys : List AV) : Walk := ⟨min xs.length ys.length, fun i A => ((A.lst? n).bind fun zs => zs[i]?).bind fun v => ((A.lst? m).bind fun zs => zs[i]?).map fun u => .tup [v, u],
  fun A => match A.lst? n, A.lst? m with | some a, some b => a.length == xs.length && b.length == ys.length | _, _ => false⟩
def zpR (a b : AV) (A : AH) : Res Walk := match a, b with
  | .tup xs, .tup ys => .ok (wZpP xs ys) A
  | .ref n, .ref m => (match A.lst? n, A.lst? m with | some xs, some ys => .ok (wZpL n m xs ys) A | _, _ => .bad)
  | _, _ => .bad
def iZipF (f g : EF) : IF := fun ℓ A => (f ℓ A).bind fun a A => (g ℓ A).bind fun b A => zpR a b A
section
variable {R : Rc} {X : Cx} {W : WX}
theorem VRs.two {ι : List Addr} {H : Hp} {a b : AV} {x y : V} (h : VR R ι H a x) (k : VR R ι H b y) : VRs R ι H [a, b] [x, y] := by
  unfold VRs
  exact ⟨x, [y], rfl, h, VRs.one k⟩
theorem pair_laid {ι : List Addr} {A : AH} {H : Hp} {T : Addr} {a b : AV} {x y : V} (M : Emb R ι A H) (hT : H T = none) (h : VR R ι H a x) (k : VR R ι H b y) : Up R ι ι H (upd H T (.tup [x, y])) ∧ Emb R ι A (upd H T (.tup [x, y])) ∧ VR R ι (upd H T (.tup [x, y])) (.tup [a, b]) (.ref T) := by
  have U : Up R ι ι H (upd H T (.tup [x, y])) := Up.laid hT
  refine ⟨U, M.laid hT, mk_tup (vs := [x, y]) (.inl (.inl upd_same)) (VRs.two (h.up U) (k.up U))⟩
theorem wr_enP {ι : List Addr} {H : Hp} {p : Addr} {xs : List AV} {vs : List V} (hs : SqT R.K H p vs) (r : VRs R ι H xs vs) : WR R ι H (wEnP xs) (ItET R.K p) where
  go := fun i ι' H' A x U M hi hx => by
    have hi' : i < xs.length := hi
    have e : xs[i]? = some xs[i] := List.getElem?_eq_getElem hi'
    have hx' : (xs[i]?).map (fun v => AV.tup [.int (i : Int), v]) = some x := hx
    rw [e] at hx'
    cases hx'
    obtain ⟨y, e1, r1⟩ := (r.up U).get e
    refine ⟨⟨vs, y, U.tup _ _ hs, e1⟩, fun z H2 ⟨T, y', ez, hT, eH, h1⟩ => ?_⟩
    subst ez eH
    have h2 := h1 vs (U.tup _ _ hs)
    rw [e1] at h2
    cases h2
    exact pair_laid M hT mk_int r1
  stop := fun ι' H' A U M _ => ⟨vs, U.tup _ _ hs, r.length.symm⟩
theorem wr_enL {ι : List Addr} {H : Hp} {p : Addr} {n : Nat} {xs : List AV} (hp : ι[n]? = some p) : WR R ι H (wEnL n xs) (Ite R.K p) where
  go := fun i ι' H' A x U M hi hx => by
    have hx' : ((A.lst? n).bind fun ys => ys[i]?).map (fun v => AV.tup [.int (i : Int), v]) = some x := hx
    cases e0 : A.lst? n with
    | none => rw [e0] at hx'; cases hx'
    | some ys =>
      rw [e0] at hx'
      simp only [Option.bind_some] at hx'
      cases e : ys[i]? with
      | none => rw [e] at hx'; cases hx'
      | some a =>
        rw [e] at hx'
        cases hx'
        obtain ⟨vs, h1, v1⟩ := lst_rd M e0 (U.at hp)
        obtain ⟨y, e1, r1⟩ := v1.get e
        refine ⟨⟨vs, y, SqL.of h1, e1⟩, fun z H2 ⟨T, y', ez, hT, eH, h2⟩ => ?_⟩
        subst ez eH
        have h3 := h2 vs (SqL.of h1)
        rw [e1] at h3
        cases h3
        exact pair_laid M hT mk_int r1
  stop := fun ι' H' A U M h => by
    have h' : (match A.lst? n with | some ys => ys.length == xs.length | none => false) = true := h
    cases e0 : A.lst? n with
    | none => rw [e0] at h'; cases h'
    | some ys =>
      rw [e0] at h'
      obtain ⟨vs, h1, v1⟩ := lst_rd M e0 (U.at hp)
      refine ⟨vs, SqL.of h1, ?_⟩
      have h2 : ys.length = xs.length := by simpa using h'
      show vs.length ≤ xs.length
      rw [← v1.length, h2]
      exact Nat.le_refl _
theorem wr_enS {ι : List Addr} {H : Hp} {x : Str} : WR R ι H (wEnP (signsA x)) (ItES x) where
  go := fun i ι' H' A v U M hi hx => by
    have hi' : i < (signsA x).length := hi
    have hx' : ((signsA x)[i]?).map (fun v => AV.tup [.int (i : Int), v]) = some v := hx
    unfold signsA at hx'
    rw [List.getElem?_map] at hx'
    cases e : x.cps.toList[i]? with
    | none => rw [e] at hx'; cases hx'
    | some c =>
      rw [e] at hx'
      cases hx'
      have e' : x.cps[i]? = some c := by rw [← Array.getElem?_toList]; exact e
      refine ⟨⟨_, c, e', rfl⟩, fun z H2 ⟨T, y', ez, hT, eH, c', h1, h2⟩ => ?_⟩
      subst ez eH h2
      rw [e'] at h1
      cases h1
      exact pair_laid M hT mk_int mk_str
  stop := fun ι' H' A U M _ => by
    show x.cps.size = (signsA x).length
    unfold signsA
    simp
theorem sim_enum {t : TA} {f : EF} (hK : X.K = R.K) (h : Sim R (VRs R) W t (aCons f aNil)) : Sim R (WR R) W (iEnumA X.K t) (iEnumF f) := fun σ ℓ H ι A Q L M q => by
  rw [hK]
  refine h σ ℓ H ι A _ L M ?_
  have q' : Then R (WR R) ((aCons f aNil ℓ A).bind fun as A => match as with | [a] => enR a A | _ => .bad) ι H Q (fun c d H' => W c d σ H') := by
    have e : (iEnumF f ℓ A) = ((aCons f aNil ℓ A).bind fun as A => match as with | [a] => enR a A | _ => .bad) := by
      unfold iEnumF aCons aNil
      cases f ℓ A <;> rfl
    rw [← e]
    exact q
  exact q'.bind fun as A1 ι1 H1 xs U1 M1 r1 q1 => by
    match as, r1, q1 with
    | [a], r1, q1 =>
      obtain ⟨x, rfl, r2⟩ := vrs1 r1
      unfold enR at q1
      cases a with
      | tup ys =>
        obtain ⟨p, vs, rfl, h1, v1⟩ := vr_tup r2
        exact .inr (.inl ⟨p, vs, rfl, h1, q1.here M1 (wr_enP h1 v1)⟩)
      | ref n =>
        obtain ⟨p, hp, rfl⟩ := vr_ref r2
        simp only at q1
        cases e : A1.lst? n with
        | none => rw [e] at q1; exact False.elim q1
        | some ys =>
          rw [e] at q1
          obtain ⟨vs, h1, v1⟩ := lst_rd M1 e hp
          exact .inl ⟨p, vs, rfl, SqL.of h1, q1.here M1 (wr_enL hp)⟩
      | str z =>
        rw [vr_str r2]
        exact .inr (.inr ⟨z, rfl, q1.here M1 wr_enS⟩)
      | _ => exact False.elim q1
    | [], _, q1 => exact False.elim q1
    | _ :: _ :: _, _, q1 => exact False.elim q1
/-! ### zip -/
theorem wr_zpP {ι : List Addr} {H : Hp} {p p2 : Addr} {xs ys : List AV} {vs ws : List V} (hs : SqT R.K H p vs) (r : VRs R ι H xs vs) (hs2 : SqT R.K H p2 ws) (r2 : VRs R ι H ys ws) : WR R ι H (wZpP xs ys) (RZ.ItzT R.K p p2) where
  go := fun i ι' H' A x U M hi hx => by
    have hi' : i < min xs.length ys.length := hi
    have e : xs[i]? = some xs[i] := List.getElem?_eq_getElem (by omega)
    have e2 : ys[i]? = some ys[i] := List.getElem?_eq_getElem (by omega)
    have hx' : ((xs[i]?).bind fun v => (ys[i]?).map fun u => AV.tup [v, u]) = some x := hx
    rw [e, e2] at hx'
    cases hx'
    obtain ⟨y, e1, r3⟩ := (r.up U).get e
    obtain ⟨y2, e4, r4⟩ := (r2.up U).get e2
    refine ⟨⟨vs, ws, y, y2, U.tup _ _ hs, U.tup _ _ hs2, e1, e4⟩, fun z H2 ⟨T, y', z', ez, hT, eH, h1, h2⟩ => ?_⟩
    subst ez eH
    have h3 := h1 vs (U.tup _ _ hs)
    have h4 := h2 ws (U.tup _ _ hs2)
    rw [e1] at h3
    rw [e4] at h4
    cases h3
    cases h4
    exact pair_laid M hT r3 r4
  stop := fun ι' H' A U M _ => ⟨vs, ws, U.tup _ _ hs, U.tup _ _ hs2, by
    show vs.length ≤ min xs.length ys.length ∨ ws.length ≤ min xs.length ys.length
    rw [← r.length, ← r2.length]; omega⟩
theorem wr_zpL {ι : List Addr} {H : Hp} {p p2 : Addr} {n m : Nat} {xs ys : List AV} (hp : ι[n]? = some p) (hp2 : ι[m]? = some p2) : WR R ι H (wZpL n m xs ys) (Itz R.K p p2) where
  go := fun i ι' H' A x U M hi hx => by
    have hx' : (((A.lst? n).bind fun zs => zs[i]?).bind fun v => ((A.lst? m).bind fun zs => zs[i]?).map fun u => AV.tup [v, u]) = some x := hx
    cases e0 : A.lst? n with
    | none => rw [e0] at hx'; cases hx'
    | some as =>
      cases e9 : A.lst? m with
      | none => rw [e0, e9] at hx'; simp only [Option.bind_some, Option.bind_none, Option.map_none, Option.bind_fun_none] at hx'; cases hx'
      | some bs =>
        rw [e0, e9] at hx'
        simp only [Option.bind_some] at hx'
        cases e : as[i]? with
        | none => rw [e] at hx'; cases hx'
        | some a =>
          rw [e] at hx'
          simp only [Option.bind_some] at hx'
          cases e2 : bs[i]? with
          | none => rw [e2] at hx'; cases hx'
          | some b =>
            rw [e2] at hx'
            cases hx'
            obtain ⟨vs, h1, v1⟩ := lst_rd M e0 (U.at hp)
            obtain ⟨ws, k1, w1⟩ := lst_rd M e9 (U.at hp2)
            obtain ⟨y, e1, r1⟩ := v1.get e
            obtain ⟨y2, e4, r4⟩ := w1.get e2
            refine ⟨⟨vs, ws, y, y2, SqL.of h1, SqL.of k1, e1, e4⟩, fun z H2 ⟨T, y', z', ez, hT, eH, h2, h3⟩ => ?_⟩
            subst ez eH
            have h5 := h2 vs (SqL.of h1)
            have h6 := h3 ws (SqL.of k1)
            rw [e1] at h5
            rw [e4] at h6
            cases h5
            cases h6
            exact pair_laid M hT r1 r4
  stop := fun ι' H' A U M h => by
    have h' : (match A.lst? n, A.lst? m with | some a, some b => a.length == xs.length && b.length == ys.length | _, _ => false) = true := h
    cases e0 : A.lst? n with
    | none => rw [e0] at h'; cases h'
    | some as =>
      cases e9 : A.lst? m with
      | none => rw [e0, e9] at h'; cases h'
      | some bs =>
        rw [e0, e9] at h'
        simp only [Bool.and_eq_true, beq_iff_eq] at h'
        obtain ⟨vs, h1, v1⟩ := lst_rd M e0 (U.at hp)
        obtain ⟨ws, k1, w1⟩ := lst_rd M e9 (U.at hp2)
        refine ⟨vs, ws, SqL.of h1, SqL.of k1, ?_⟩
        show vs.length ≤ min xs.length ys.length ∨ ws.length ≤ min xs.length ys.length
        rw [← v1.length, ← w1.length]
        omega
theorem sim_zip {t : TA} {f g : EF} (hK : X.K = R.K) (h : Sim R (VRs R) W t (aCons f (aCons g aNil))) : Sim R (WR R) W (RZ.iZipA X.K t) (iZipF f g) := fun σ ℓ H ι A Q L M q => by
  rw [hK]
  refine h σ ℓ H ι A _ L M ?_
  have q' : Then R (WR R) ((aCons f (aCons g aNil) ℓ A).bind fun as A => match as with | [a, b] => zpR a b A | _ => .bad) ι H Q (fun c d H' => W c d σ H') := by
    have e : (iZipF f g ℓ A) = ((aCons f (aCons g aNil) ℓ A).bind fun as A => match as with | [a, b] => zpR a b A | _ => .bad) := by
      unfold iZipF aCons aNil
      cases f ℓ A with
      | ok a A1 => simp only [Res.bind]; cases g ℓ A1 <;> rfl
      | _ => rfl
    rw [← e]
    exact q
  exact q'.bind fun as A1 ι1 H1 xs U1 M1 r1 q1 => by
    match as, r1, q1 with
    | [a, b], r1, q1 =>
      obtain ⟨x, y, rfl, r2, r3⟩ := vrs2 r1
      unfold zpR at q1
      cases a with
      | tup zs =>
        cases b with
        | tup us =>
          obtain ⟨p, vs, rfl, h1, v1⟩ := vr_tup r2
          obtain ⟨p2, ws, rfl, h2, v2⟩ := vr_tup r3
          exact ⟨p, p2, vs, ws, rfl, .inr ⟨h1, h2, q1.here M1 (wr_zpP h1 v1 h2 v2)⟩⟩
        | _ => exact False.elim q1
      | ref n =>
        cases b with
        | ref m =>
          obtain ⟨p, hp, rfl⟩ := vr_ref r2
          obtain ⟨p2, hp2, rfl⟩ := vr_ref r3
          simp only at q1
          cases e : A1.lst? n with
          | none => rw [e] at q1; exact False.elim q1
          | some zs =>
            cases e2 : A1.lst? m with
            | none => rw [e, e2] at q1; exact False.elim q1
            | some us =>
              rw [e, e2] at q1
              obtain ⟨vs, h1, v1⟩ := lst_rd M1 e hp
              obtain ⟨ws, h2, v2⟩ := lst_rd M1 e2 hp2
              exact ⟨p, p2, vs, ws, rfl, .inl ⟨SqL.of h1, SqL.of h2, q1.here M1 (wr_zpL hp hp2)⟩⟩
        | _ => exact False.elim q1
      | _ => exact False.elim q1
    | [], _, q1 => exact False.elim q1
    | [_], _, q1 => exact False.elim q1
    | _ :: _ :: _ :: _, _, q1 => exact False.elim q1
end
/-! ### all, any, str, texts' methods -/
def blsA : List AV → Option (List Bool)
  | [] => some []
  | .bl b :: as => (blsA as).map (b :: ·)
  | _ => none
def bAll (as : List AV) (A : AH) : Res AV := match as with
  | [a] => match (sq? a A).bind blsA with
    | some bs => .ok (.bl (bs.all id)) A
    | none => .bad
  | _ => .bad
def bAny (as : List AV) (A : AH) : Res AV := match as with
  | [a] => match (sq? a A).bind blsA with
    | some bs => .ok (.bl (bs.any id)) A
    | none => .bad
  | _ => .bad
def bStr (as : List AV) (A : AH) : Res AV := match as with
  | [.int i] => if i.natAbs.log2 < 1920 then .ok (.str (toString i)) A else .bad
  | [.str x] => .ok (.str x) A
  | _ => .bad
def bSum (as : List AV) (A : AH) : Res AV := .bad
def mSplit (a : AV) (as : List AV) (A : AH) : Res AV := match a, as with
  | .str x, [.str y] => if y.length ≠ 0 ∧ x.length + 2 ≤ sizeLine then .ok (.ref A.length) (A ++ [.lst ((Txt.split x y).map .str)]) else .bad
  | _, _ => .bad
def mStrip (a : AV) (as : List AV) (A : AH) : Res AV := match a, as with
  | .str x, [] => if x.length ≤ sizeLine then .ok (.str (Txt.strip x)) A else .bad
  | .str x, [.str y] => if x.length ≤ sizeLine then .ok (.str (Txt.stripChars x y)) A else .bad
  | _, _ => .bad
def mLstrip (a : AV) (as : List AV) (A : AH) : Res AV := match a, as with
  | .str x, [] => if x.length ≤ sizeLine then .ok (.str (Txt.lstrip x)) A else .bad
  | .str x, [.str y] => if x.length ≤ sizeLine then .ok (.str (Txt.lstripChars x y)) A else .bad
  | _, _ => .bad
section
variable {R : Rc} {X : Cx} {W : WX}
theorem blsA_ok {ι : List Addr} {H : Hp} : ∀ {as : List AV} {xs : List V} {is : List Bool}, blsA as = some is → VRs R ι H as xs → xs = is.map V.bl
  | [], _, _, h, r => by unfold blsA at h; cases h; exact vrs0 r
  | a :: as, _, _, h, r => by
    unfold VRs at r
    obtain ⟨v, t, rfl, r1, r2⟩ := r
    cases a with
    | bl i =>
      unfold blsA at h
      cases e : blsA as with
      | none => rw [e] at h; cases h
      | some js =>
        rw [e] at h
        cases h
        rw [vr_bl r1, blsA_ok e r2]
        rfl
    | _ => unfold blsA at h; cases h
theorem bAll_s (hK : X.K = R.K) (hc : X.calm = true) : ∃ r, CallR X (.builtin "all") r ∧ SimC R r bAll := ⟨_, cr_all hc, fun as xs H ι A Q E M r q => by
  unfold bAll at q
  split at q
  · obtain ⟨x, rfl, r1⟩ := vrs1 r
    split at q
    · rename_i bs e
      cases e0 : sq? _ A with
      | none => rw [e0] at e; cases e
      | some ys =>
        rw [e0] at e
        simp only [Option.bind_some] at e
        obtain ⟨p, vs, rfl, h1, v1⟩ := sq_rd M e0 r1
        rw [blsA_ok e v1] at h1
        exact ⟨p, bs, rfl, by rw [hK]; exact h1, q.here M mk_bl⟩
    · exact False.elim q
  · exact False.elim q⟩
theorem bAny_s (hK : X.K = R.K) (hc : X.calm = true) : ∃ r, CallR X (.builtin "any") r ∧ SimC R r bAny := ⟨_, cr_any hc, fun as xs H ι A Q E M r q => by
  unfold bAny at q
  split at q
  · obtain ⟨x, rfl, r1⟩ := vrs1 r
    split at q
    · rename_i bs e
      cases e0 : sq? _ A with
      | none => rw [e0] at e; cases e
      | some ys =>
        rw [e0] at e
        simp only [Option.bind_some] at e
        obtain ⟨p, vs, rfl, h1, v1⟩ := sq_rd M e0 r1
        rw [blsA_ok e v1] at h1
        exact ⟨p, bs, rfl, by rw [hK]; exact h1, q.here M mk_bl⟩
    · exact False.elim q
  · exact False.elim q⟩
theorem bStr_s : ∃ r, CallR X (.type "str") r ∧ SimC R r bStr := ⟨_, call_str_int.or SkE.call_str_str, fun as xs H ι A Q E M r q => by
  unfold bStr at q
  split at q
  · obtain ⟨x, rfl, r1⟩ := vrs1 r
    rw [vr_int r1]
    split at q
    · rename_i hl
      exact .inl ⟨_, rfl, hl, q.here M mk_str⟩
    · exact False.elim q
  · obtain ⟨x, rfl, r1⟩ := vrs1 r
    rw [vr_str r1]
    exact .inr ⟨_, rfl, q.here M mk_str⟩
  · exact False.elim q⟩
theorem VRs.strs {ι : List Addr} {H : Hp} : ∀ (ys : List Str), VRs R ι H (ys.map .str) (ys.map V.str)
  | [] => by unfold VRs; rfl
  | y :: ys => by
    rw [List.map_cons, List.map_cons]
    unfold VRs
    exact ⟨_, _, rfl, mk_str, VRs.strs ys⟩
theorem mSplit_s : SimM R (fun x xs H Q => ∃ a b, x = V.str a ∧ xs = [V.str b] ∧ (b.length == 0) = false ∧ a.length + 2 ≤ sizeLine ∧ rNewStrs (Txt.split a b) H Q) mSplit := fun a as x xs H ι A Q E M r rs q => by
  unfold mSplit at q
  split at q
  · rename_i s t
    obtain ⟨y, rfl, r1⟩ := vrs1 rs
    split at q
    · rename_i hc
      exact ⟨s, t, vr_str r, by rw [vr_str r1], by simpa using hc.1, hc.2, q.lstNew M (VRs.strs _)⟩
    · exact False.elim q
  · exact False.elim q
theorem mStrip_s : SimM R (fun x xs H Q => (∃ a, x = V.str a ∧ xs = [] ∧ a.length ≤ sizeLine ∧ Q (.str (Txt.strip a)) H) ∨ ∃ a b, x = V.str a ∧ xs = [V.str b] ∧ a.length ≤ sizeLine ∧ Q (.str (Txt.stripChars a b)) H) mStrip := fun a as x xs H ι A Q E M r rs q => by
  unfold mStrip at q
  split at q
  · rename_i s
    split at q
    · rename_i hc
      exact .inl ⟨s, vr_str r, vrs0 rs, hc, q.here M mk_str⟩
    · exact False.elim q
  · rename_i s t
    obtain ⟨y, rfl, r1⟩ := vrs1 rs
    split at q
    · rename_i hc
      exact .inr ⟨s, t, vr_str r, by rw [vr_str r1], hc, q.here M mk_str⟩
    · exact False.elim q
  · exact False.elim q
theorem mLstrip_s : SimM R (fun x xs H Q => (∃ a, x = V.str a ∧ xs = [] ∧ a.length ≤ sizeLine ∧ Q (.str (Txt.lstrip a)) H) ∨ ∃ a b, x = V.str a ∧ xs = [V.str b] ∧ a.length ≤ sizeLine ∧ Q (.str (Txt.lstripChars a b)) H) mLstrip := fun a as x xs H ι A Q E M r rs q => by
  unfold mLstrip at q
  split at q
  · rename_i s
    split at q
    · rename_i hc
      exact .inl ⟨s, vr_str r, vrs0 rs, hc, q.here M mk_str⟩
    · exact False.elim q
  · rename_i s t
    obtain ⟨y, rfl, r1⟩ := vrs1 rs
    split at q
    · rename_i hc
      exact .inr ⟨s, t, vr_str r, by rw [vr_str r1], hc, q.here M mk_str⟩
    · exact False.elim q
  · exact False.elim q
end
end Sh

set_option Elab.async false
set_option linter.all false
set_option maxRecDepth 100000
set_option maxHeartbeats 4000000
/-! d.get(k), d.get(k, x): of dicts, of written dicts -/
namespace Sh
open PySem PySem.Spec L2 PyProof.Rows
def isD (a : AV) (A : AH) : Bool := match a with
  | .ref n => (A.dct? n).isSome
  | .gd _ kvs => kvs.all strK
  | _ => false
def getR (d a k : AV) (A : AH) : Res AV := match a, keyOf k with
  | .ref n, some key => (match A.dct? n with | some kvs => .ok ((valA kvs key).getD d) A | none => .bad)
  | .gd _ kvs, some (.inr z) => .ok ((valA kvs (.inr z)).getD d) A
  | _, _ => .bad
def eGet1 (fo fe : EF) : EF := fun ℓ A => (fo ℓ A).bind fun a A => if isD a A then (fe ℓ A).bind fun k A => getR .non a k A else .bad
def eGet2 (fo fe fd : EF) : EF := fun ℓ A => (fo ℓ A).bind fun a A => if isD a A then (fe ℓ A).bind fun k A => (fd ℓ A).bind fun d A => getR d a k A else .bad
section
variable {X : Cx} {o e f : Expr} {apos cpos : Pos} {td ty tx : TE}
def isK (X : Cx) (x : V) : Prop := ∃ p es n, x = .ref p ∧ KDict X.K X.w p es n
def kGet (X : Cx) (x y d : V) (H : Hp) (Q : VK) : Prop := ∃ p z r, x = .ref p ∧ y = .str z ∧ PySem.W.nsIn X.K p z = some r ∧ ∀ v, (match r with | some u => RelV v u | none => v = d) → Q v H
def tKGet1 (X : Cx) (td ty : TE) : TE := fun σ H Q => td σ H fun x H1 => isK X x ∧ ty σ H1 fun y H2 => ∃ p z v, x = .ref p ∧ y = .str z ∧ ((∃ u, PySem.W.nsIn X.K p z = some (some u) ∧ RelV v u) ∨ (PySem.W.nsIn X.K p z = some none ∧ v = .non)) ∧ Q v H2
def tKGet2 (X : Cx) (td ty tx : TE) : TE := fun σ H Q => td σ H fun x H1 => isK X x ∧ ty σ H1 fun y H2 => tx σ H2 fun d H3 => ∃ p z v, x = .ref p ∧ y = .str z ∧ ((∃ u, PySem.W.nsIn X.K p z = some (some u) ∧ RelV v u) ∨ (PySem.W.nsIn X.K p z = some none ∧ v = d)) ∧ Q v H3
theorem kd_at {pins : List (Addr × Obj)} {σ : L2.St} {H : Hp} {s : Shared} {p : Addr} {es : Array DictEntry} {n : Nat} (I : Inv X pins σ H s) (D : KDict X.K X.w p es n) :
    s.TypeIs (.ref p) "dict" ∧ (∀ b, Value.ref p = .ref b → ∃ ob, s.heap.get? b = some ob ∧ ob.dict = none) :=
  ⟨kd_type D I, fun b q => by cases q; exact ⟨_, I.kIn _ _ D.at_, rfl⟩⟩
theorem pe_kget1 (ho : PE X o td) (he : PE X e ty) (m : M1 X o "get" apos e cpos) : PE X (.Call (.Attribute o "get" apos) [e] [] cpos) (tKGet1 X td ty) := by
  refine ⟨fun pins s σ H Q I h => ?_⟩
  refine wpAny_Call_method m.base m.few m.line PySem.F.plainAttrs_dict PySem.F.slot_dict_get PySem.F.type_dict_get (thn (ho.run pins s σ H _ I h) fun u s1 ⟨x, H1, I1, rx, ⟨p, es, n, ex, D⟩, q1⟩ => ?_)
  subst ex
  obtain rfl : u = Value.ref p := rx
  obtain ⟨t1, t2⟩ := kd_at I1 D
  refine ⟨t1, t2, ?_⟩
  rw [m.trees]
  refine Calls.callWith_builtin rfl (Calls.evalArgs_plain (Calls.spliced_cons (thn (he.run pins s1 σ H1 _ I1 q1) fun iv s2 ⟨y, H2, I2, ry, p', z, v, ep, ey, hv, q2⟩ => Calls.spliced_nil ?_)))
  cases ep
  subst ey
  obtain ⟨t, rfl⟩ := ry
  have hm := PySem.W.mapOf_K (prog := X.prog) (w := X.w) I2.kIn D.at_ D.lit
  refine call_meetsIn PySem.F.slot_dict_get hm.typeIs PySem.F.entry_dict_get (PySem.F.args_dict_get_2 _ _) (meets_dict_get (strKind X.prog X.w) p (strKind_is X.prog X.w z t) D.low) ⟨_, hm, v, H2, I2.tok _, ?_, q2⟩
  rcases hv with ⟨u, h1, h2⟩ | ⟨h1, h2⟩
  · rw [PySem.W.find_K D.at_ h1]
    exact h2
  · rw [PySem.W.find_K D.at_ h1, h2]
    rfl
theorem pe_kget2 (ho : PE X o td) (he : PE X e ty) (hf : PE X f tx) (m : M2 X o "get" apos e f cpos) : PE X (.Call (.Attribute o "get" apos) [e, f] [] cpos) (tKGet2 X td ty tx) := by
  refine ⟨fun pins s σ H Q I h => ?_⟩
  refine wpAny_Call_method m.base m.few m.line PySem.F.plainAttrs_dict PySem.F.slot_dict_get PySem.F.type_dict_get (thn (ho.run pins s σ H _ I h) fun u s1 ⟨x, H1, I1, rx, ⟨p, es, n, ex, D⟩, q1⟩ => ?_)
  subst ex
  obtain rfl : u = Value.ref p := rx
  obtain ⟨t1, t2⟩ := kd_at I1 D
  refine ⟨t1, t2, ?_⟩
  rw [m.trees]
  refine Calls.callWith_builtin rfl (Calls.evalArgs_plain (Calls.spliced_cons (thn (he.run pins s1 σ H1 _ I1 q1) fun iv s2 ⟨y, H2, I2, ry, q2⟩ => Calls.spliced_cons (thn (hf.run pins s2 σ H2 _ I2 q2) fun dv s3 ⟨d, H3, I3, rd, p', z, v, ep, ey, hv, q3⟩ => Calls.spliced_nil ?_))))
  cases ep
  subst ey
  obtain ⟨t, rfl⟩ := ry
  have hm := PySem.W.mapOf_K (prog := X.prog) (w := X.w) I3.kIn D.at_ D.lit
  refine call_meetsIn PySem.F.slot_dict_get hm.typeIs PySem.F.entry_dict_get (PySem.F.args_dict_get_3 _ _ _) (meets_dict_get_default (strKind X.prog X.w) p (strKind_is X.prog X.w z t) D.low dv) ⟨_, hm, v, H3, I3.tok _, ?_, q3⟩
  rcases hv with ⟨u, h1, h2⟩ | ⟨h1, h2⟩
  · rw [PySem.W.find_K D.at_ h1]
    exact h2
  · rw [PySem.W.find_K D.at_ h1, h2]
    exact rd
end
section
variable {R : Rc} {X : Cx} {W : WX} {o e f : Expr} {apos cpos : Pos} {td ty tx : TE}
theorem PE.or {e : Expr} {t u : TE} (h1 : PE X e t) (h2 : PE X e u) : PE X e (fun σ H Q => t σ H Q ∨ u σ H Q) :=
  ⟨fun pins s σ H Q I h => h.elim (h1.run pins s σ H Q I) (h2.run pins s σ H Q I)⟩
theorem get_gd {ι : List Addr} {H : Hp} {n : Str} {kvs : List (Key × AV)} {x : V} (hg : GdOk R) (r : VR R ι H (.gd n kvs) x) (ha : kvs.all strK = true) :
    ∃ p es m, x = .ref p ∧ KDict R.K R.w p es m ∧ ∀ z, (∀ v, valA kvs (.inr z) = some v → ∃ y u, PySem.W.nsIn R.K p z = some (some u) ∧ RelV y u ∧ ∀ ι H, VR R ι H v y) ∧ (valA kvs (.inr z) = none → PySem.W.nsIn R.K p z = some none) := by
  unfold VR at r
  obtain ⟨p, h1, h2, rfl⟩ := r
  obtain ⟨g1, _, g3⟩ := hg n kvs p h2 h1
  obtain ⟨es, m, D, _, hn⟩ := g3 ha
  refine ⟨p, es, m, rfl, D, fun z => ⟨fun v hv => ?_, hn z⟩⟩
  obtain ⟨y, ⟨es', n', u, _, _, k3, k4⟩, k2⟩ := g1 z v hv
  exact ⟨y, u, k3, k4, k2⟩
theorem KR.getD {ι : List Addr} {H : Hp} {kvs : List (Key × AV)} {vs : List (Key × V)} {k : Key} {d : AV} {y : V} (h : KR R ι H kvs vs) (hd : VR R ι H d y) : ∃ o, valV vs k = o ∧ VR R ι H ((valA kvs k).getD d) (o.getD y) := by
  rcases h.val k with ⟨h1, h2⟩ | ⟨a, x, h1, h2, h3⟩
  · exact ⟨none, h2, by rw [h1]; exact hd⟩
  · exact ⟨some x, h2, by rw [h1]; exact h3⟩
theorem getR_ok {ι : List Addr} {H : Hp} {A : AH} {a k d : AV} {x y z : V} {Q : VK} {E : XK} (hK : X.K = R.K) (hw : X.w = R.w) (hg : GdOk R) (M : Emb R ι A H) (ra : VR R ι H a x) (rk : VR R ι H k y) (rd : VR R ι H d z) (q : Then R (VR R) (getR d a k A) ι H Q E) :
    (∃ n, a = .ref n ∧ ∃ p o, x = .ref p ∧ DGet H p y o ∧ Q (o.getD z) H) ∨ (∃ n kvs, a = .gd n kvs ∧ (kvs.all strK = true → ∃ p s v, x = .ref p ∧ y = .str s ∧ ((∃ u, PySem.W.nsIn X.K p s = some (some u) ∧ RelV v u) ∨ (PySem.W.nsIn X.K p s = some none ∧ v = z)) ∧ Q v H)) := by
  unfold getR at q
  cases a with
  | ref n =>
    obtain ⟨p, hp, rfl⟩ := vr_ref ra
    refine .inl ⟨n, rfl, ?_⟩
    cases ek : keyOf k with
    | none => rw [ek] at q; exact False.elim q
    | some key =>
      rw [ek] at q
      simp only at q
      cases e : A.dct? n with
      | none => rw [e] at q; exact False.elim q
      | some kvs =>
        rw [e] at q
        obtain ⟨vs, h1, v1⟩ := dct_rd M e hp
        obtain ⟨o, h2, h3⟩ := v1.getD (k := key) rd
        have hy : y = kV key := by
          cases k with
          | int i => cases ek; exact vr_int rk
          | str i => cases ek; exact vr_str rk
          | _ => cases ek
        exact ⟨p, o, rfl, .inl ⟨vs, key, .inl h1, hy, h2.symm⟩, q.here M h3⟩
  | gd n kvs =>
    refine .inr ⟨n, kvs, rfl, fun ha => ?_⟩
    obtain ⟨p, es, m, rfl, D, hz⟩ := get_gd hg ra ha
    cases k with
    | str s =>
      obtain ⟨h1, h2⟩ := hz s
      have q' : Then R (VR R) (.ok ((valA kvs (.inr s)).getD d) A) ι H Q E := q
      cases e : valA kvs (.inr s) with
      | none =>
        rw [e] at q'
        exact ⟨p, s, z, rfl, vr_str rk, .inr ⟨by rw [hK]; exact h2 e, rfl⟩, q'.here M rd⟩
      | some v =>
        rw [e] at q'
        obtain ⟨w, u, k1, k2, k3⟩ := h1 v e
        exact ⟨p, s, w, rfl, vr_str rk, .inl ⟨u, by rw [hK]; exact k1, k2⟩, q'.here M (k3 _ _)⟩
    | _ => exact False.elim q
  | _ => exact False.elim q
theorem isD_ok {ι : List Addr} {H : Hp} {A : AH} {a : AV} {x : V} (hK : X.K = R.K) (hw : X.w = R.w) (hg : GdOk R) (M : Emb R ι A H) (h : isD a A = true) (r : VR R ι H a x) : (∃ n, a = .ref n ∧ ∃ p, x = .ref p ∧ IsD H p) ∨ (∃ n kvs, a = .gd n kvs ∧ kvs.all strK = true ∧ isK X x) := by
  unfold isD at h
  cases a with
  | ref n =>
    obtain ⟨p, hp, rfl⟩ := vr_ref r
    obtain ⟨kvs, e⟩ := Option.isSome_iff_exists.mp h
    obtain ⟨vs, h1, _⟩ := dct_rd M e hp
    exact .inl ⟨n, rfl, p, rfl, .inl ⟨vs, .inl h1⟩⟩
  | gd n kvs =>
    obtain ⟨p, es, m, rfl, D, _⟩ := get_gd hg r h
    exact .inr ⟨n, kvs, rfl, h, p, es, m, rfl, by rw [hK, hw]; exact D⟩
  | _ => cases h
theorem get_step {fo : EF} {k : AV → AH → Res AV} {ℓ : LSt} {A : AH} {ι : List Addr} {H : Hp} {Q : VK} {E : XK} (q : Then R (VR R) ((fo ℓ A).bind fun a A => if isD a A then k a A else .bad) ι H Q E) :
    (∃ n A1, fo ℓ A = .ok (.ref n) A1 ∧ ∀ ι1 H1 x, Up R ι ι1 H H1 → Emb R ι1 A1 H1 → VR R ι1 H1 (.ref n) x → isD (.ref n) A1 = true ∧ Then R (VR R) (k (.ref n) A1) ι1 H1 Q E) ∨
    (∃ n kvs A1, fo ℓ A = .ok (.gd n kvs) A1 ∧ ∀ ι1 H1 x, Up R ι ι1 H H1 → Emb R ι1 A1 H1 → VR R ι1 H1 (.gd n kvs) x → isD (.gd n kvs) A1 = true ∧ Then R (VR R) (k (.gd n kvs) A1) ι1 H1 Q E) ∨ ((∀ a A1, fo ℓ A ≠ .ok a A1) ∧ ∀ P, Then R (VR R) (fo ℓ A) ι H P E) := by
  cases e : fo ℓ A with
  | ok a A1 =>
    rw [e] at q
    have q' : Then R (VR R) (if isD a A1 then k a A1 else .bad) ι H Q E := q
    by_cases h : isD a A1 = true
    · rw [if_pos h] at q'
      cases a with
      | ref n => exact .inl ⟨n, A1, rfl, fun ι1 H1 x U1 M1 v1 => ⟨h, Then.up U1 q'⟩⟩
      | gd n kvs => exact .inr (.inl ⟨n, kvs, A1, rfl, fun ι1 H1 x U1 M1 v1 => ⟨h, Then.up U1 q'⟩⟩)
      | _ => cases h
    · rw [if_neg h] at q'
      exact False.elim q'
  | exc c fs A1 =>
    rw [e] at q
    exact .inr (.inr ⟨fun a A1 => (fun z => by cases z), fun P => q⟩)
  | bad =>
    rw [e] at q
    exact False.elim q
theorem sim_get1 {fo fe : EF} (hK : X.K = R.K) (hw : X.w = R.w) (hg : GdOk R) (ho : Sim R (VR R) W td fo) (he : Sim R (VR R) W ty fe) : Sim R (VR R) W (fun σ H Q => tDGet1 td ty σ H Q ∨ tKGet1 X td ty σ H Q) (eGet1 fo fe) := fun σ ℓ H ι A Q L M q => by
  rcases get_step q with ⟨n, A1, e, h⟩ | ⟨n, kvs, A1, e, h⟩ | ⟨h1, h2⟩
  · refine .inl (ho σ ℓ H ι A _ L M ?_)
    rw [e]
    intro ι1 H1 x U1 M1 v1
    obtain ⟨hd, q1⟩ := h ι1 H1 x U1 M1 v1
    rcases isD_ok (X := X) hK hw hg M1 hd v1 with ⟨m, em, p, rfl, d⟩ | ⟨m, kvs, em, _⟩
    · cases em
      refine ⟨p, rfl, d, he σ ℓ H1 ι1 A1 _ (L.up U1) M1 (q1.bind fun k A2 ι2 H2 y U2 M2 v2 q2 => ?_)⟩
      rcases getR_ok (X := X) hK hw hg M2 (v1.up U2) v2 mk_non q2 with ⟨m, em, p', o, ep, g, q3⟩ | ⟨m, kvs, em, _⟩
      · cases ep
        exact ⟨o, g, q3⟩
      · cases em
    · cases em
  · refine .inr (ho σ ℓ H ι A _ L M ?_)
    rw [e]
    intro ι1 H1 x U1 M1 v1
    obtain ⟨hd, q1⟩ := h ι1 H1 x U1 M1 v1
    rcases isD_ok (X := X) hK hw hg M1 hd v1 with ⟨m, em, _⟩ | ⟨m, kvs', em, ha, hk⟩
    · cases em
    · cases em
      refine ⟨hk, he σ ℓ H1 ι1 A1 _ (L.up U1) M1 (q1.bind fun k A2 ι2 H2 y U2 M2 v2 q2 => ?_)⟩
      rcases getR_ok (X := X) hK hw hg M2 (v1.up U2) v2 mk_non q2 with ⟨m, em, _⟩ | ⟨m, kvs', em, q3⟩
      · cases em
      · cases em
        obtain ⟨p, z, v, h1, h2, h3, h4⟩ := q3 ha
        exact ⟨p, z, v, h1, h2, h3, h4⟩
  · exact .inl (ho σ ℓ H ι A _ L M (h2 _))
theorem sim_get2 {fo fe fd : EF} (hK : X.K = R.K) (hw : X.w = R.w) (hg : GdOk R) (ho : Sim R (VR R) W td fo) (he : Sim R (VR R) W ty fe) (hd : Sim R (VR R) W tx fd) : Sim R (VR R) W (fun σ H Q => tDGet2 td ty tx σ H Q ∨ tKGet2 X td ty tx σ H Q) (eGet2 fo fe fd) := fun σ ℓ H ι A Q L M q => by
  rcases get_step (k := fun a A => (fe ℓ A).bind fun k A => (fd ℓ A).bind fun d A => getR d a k A) q with ⟨n, A1, e, h⟩ | ⟨n, kvs, A1, e, h⟩ | ⟨h1, h2⟩
  · refine .inl (ho σ ℓ H ι A _ L M ?_)
    rw [e]
    intro ι1 H1 x U1 M1 v1
    obtain ⟨hdd, q1⟩ := h ι1 H1 x U1 M1 v1
    rcases isD_ok (X := X) hK hw hg M1 hdd v1 with ⟨m, em, p, rfl, d⟩ | ⟨m, kvs, em, _⟩
    · cases em
      refine ⟨p, rfl, d, he σ ℓ H1 ι1 A1 _ (L.up U1) M1 (q1.bind fun k A2 ι2 H2 y U2 M2 v2 q2 => hd σ ℓ H2 ι2 A2 _ ((L.up U1).up U2) M2 (q2.bind fun dv A3 ι3 H3 z U3 M3 v3 q3 => ?_))⟩
      rcases getR_ok (X := X) hK hw hg M3 ((v1.up U2).up U3) (v2.up U3) v3 q3 with ⟨m, em, p', o, ep, g, q4⟩ | ⟨m, kvs, em, _⟩
      · cases ep
        exact ⟨o, g, q4⟩
      · cases em
    · cases em
  · refine .inr (ho σ ℓ H ι A _ L M ?_)
    rw [e]
    intro ι1 H1 x U1 M1 v1
    obtain ⟨hdd, q1⟩ := h ι1 H1 x U1 M1 v1
    rcases isD_ok (X := X) hK hw hg M1 hdd v1 with ⟨m, em, _⟩ | ⟨m, kvs', em, ha, hk⟩
    · cases em
    · cases em
      refine ⟨hk, he σ ℓ H1 ι1 A1 _ (L.up U1) M1 (q1.bind fun k A2 ι2 H2 y U2 M2 v2 q2 => hd σ ℓ H2 ι2 A2 _ ((L.up U1).up U2) M2 (q2.bind fun dv A3 ι3 H3 z U3 M3 v3 q3 => ?_))⟩
      rcases getR_ok (X := X) hK hw hg M3 ((v1.up U2).up U3) (v2.up U3) v3 q3 with ⟨m, em, _⟩ | ⟨m, kvs', em, q4⟩
      · cases em
      · cases em
        obtain ⟨p, z, v, h1, h2, h3, h4⟩ := q4 ha
        exact ⟨p, z, v, h1, h2, h3, h4⟩
  · exact .inl (ho σ ℓ H ι A _ L M (h2 _))
end
end Sh

set_option Elab.async false
set_option linter.all false
set_option maxRecDepth 100000
set_option maxHeartbeats 4000000
namespace Sh
open PySem PySem.Spec L2 PyProof.Rows
/-! ### in and not in, of a text and a written dict (else as cIn, cNotIn) -/
def cInD (a b : AV) (A : AH) : Res AV := match a, b with
  | .str z, .gd _ kvs => if kvs.all strK then .ok (.bl (valA kvs (.inr z)).isSome) A else .bad
  | a, b => cIn a b A
def cNotInD (a b : AV) (A : AH) : Res AV := match a, b with
  | .str z, .gd _ kvs => if kvs.all strK then .ok (.bl (!(valA kvs (.inr z)).isSome)) A else .bad
  | a, b => cNotIn a b A
section
variable {R : Rc} {X : Cx}
theorem gd_ns {ι : List Addr} {H : Hp} {n : Str} {kvs : List (Key × AV)} {x : V} (z : Str) (hg : GdOk R) (r : VR R ι H (.gd n kvs) x) (ha : kvs.all strK = true) :
    ∃ p es m o, x = .ref p ∧ KDict R.K R.w p es m ∧ PySem.W.nsIn R.K p z = some o ∧ o.isSome = (valA kvs (.inr z)).isSome := by
  obtain ⟨p, es, m, rfl, D, hz⟩ := get_gd hg r ha
  cases e : valA kvs (.inr z) with
  | none => exact ⟨p, es, m, none, rfl, D, (hz z).2 e, rfl⟩
  | some v =>
    obtain ⟨y, u, h1, _⟩ := (hz z).1 v e
    exact ⟨p, es, m, some u, rfl, D, h1, rfl⟩
theorem op_inD_s (hK : X.K = R.K) (hw : X.w = R.w) (hg : GdOk R) (hu : X.A.units + 64 < cLine) : OpS R X (compareOp .In) cInD := by
  obtain ⟨r, h1, h2⟩ := op_in_s (R := R) hK hu
  refine ⟨fun x y H Q => r x y H Q ∨ ∃ d es n, KDict X.K X.w d es n ∧ ∃ (z : Str) (o : Option Value), x = .str z ∧ y = .ref d ∧ PySem.W.nsIn X.K d z = some o ∧ Q (.bl o.isSome) H, ?_, ?_⟩
  · intro pins s σ H x y v u Q I rx ry h
    rcases h with h | ⟨d, es, n, D, h⟩
    · exact h1 pins s σ H x y v u Q I rx ry h
    · exact op_in_kd D pins s σ H x y v u Q I rx ry h
  · intro a b x y H ι A Q E M r1 r2 q
    unfold cInD at q
    split at q
    · rename_i z nm kvs
      split at q
      · rename_i ha
        obtain ⟨p, es, m, o, rfl, D, hn, ho⟩ := gd_ns z hg r2 ha
        refine .inr ⟨p, es, m, by rw [hK, hw]; exact D, z, o, vr_str r1, rfl, by rw [hK]; exact hn, ?_⟩
        rw [ho]
        exact q.here M mk_bl
      · exact False.elim q
    · exact .inl (h2 a b x y H ι A Q E M r1 r2 q)
theorem op_notInD_s (hK : X.K = R.K) (hw : X.w = R.w) (hg : GdOk R) (hu : X.A.units + 64 < cLine) : OpS R X (compareOp .NotIn) cNotInD := by
  obtain ⟨r, h1, h2⟩ := op_notIn_s (R := R) hK hu
  refine ⟨fun x y H Q => r x y H Q ∨ ∃ d es n, KDict X.K X.w d es n ∧ ∃ (z : Str) (o : Option Value), x = .str z ∧ y = .ref d ∧ PySem.W.nsIn X.K d z = some o ∧ Q (.bl (!o.isSome)) H, ?_, ?_⟩
  · intro pins s σ H x y v u Q I rx ry h
    rcases h with h | ⟨d, es, n, D, h⟩
    · exact h1 pins s σ H x y v u Q I rx ry h
    · exact op_notIn_kd D pins s σ H x y v u Q I rx ry h
  · intro a b x y H ι A Q E M r1 r2 q
    unfold cNotInD at q
    split at q
    · rename_i z nm kvs
      split at q
      · rename_i ha
        obtain ⟨p, es, m, o, rfl, D, hn, ho⟩ := gd_ns z hg r2 ha
        refine .inr ⟨p, es, m, by rw [hK, hw]; exact D, z, o, vr_str r1, rfl, by rw [hK]; exact hn, ?_⟩
        rw [ho]
        exact q.here M mk_bl
      · exact False.elim q
    · exact .inl (h2 a b x y H ι A Q E M r1 r2 q)
end
end Sh

set_option Elab.async false
set_option linter.all false
set_option maxRecDepth 100000
set_option maxHeartbeats 3200000
namespace L2
open PySem PySem.Spec PyProof.Rows Builtin
/-! ### set(xs) of a list of ints -/
abbrev mtSet (w : World) : Obj := { cls := .type "set", dict := none, data := .set #[] 0 (.fresh 0 0 (!w.params.followText "set-order")) }
section
variable {P : Program} {w : World} {A : Around} {E : Value → Shared → Prop} {s : Shared}
/-- the loop over the list, from the fresh set on -/
theorem set_ofL {l : Addr} {items : Array Value} (ns : List Int) {Q : Value → Shared → Prop} (hh : A.handled = none) (hl : s.heap.IsList l items) (hit : IntsAre items.toList ns) (hb : ns.length + 1 < scanBound)
    (h : ∀ (g : Heap) (u c : Nat), SetR w g s.heap.objs.size (fun j => decide (j ∈ ns)) c → c ≤ ns.length → (∀ b o, s.heap.get? b = some o → g.get? b = some o) → Q (.ref s.heap.objs.size) { s with heap := g, toks := u }) : wpAny (model P w) A (call (.type "set") [.ref l]) Q E s := by
  have hcount : items.size = ns.length := by simpa using IntsAre.length hit
  obtain ⟨cl, rest, hmro⟩ := F.called_set.mro
  have m1 := F.called_set.made
  have m2 := F.called_set.sub
  refine wpAny_call (codeAny_of_tree ?_); show wpAny _ _ (callAny (.type "set") _) _ _ _
  refine wpAny_pure ⟨Code.quiet_builtin _ (by decide +kernel), codeAny_builtin F.entry_type_call ?_⟩; rw [Around.under_plain (weight_type_call_type "set" [.ref l] []) rfl]
  have m3 := F.called_set.notType
  have m4 := F.called_set.canCreate
  have m5 := F.typeCall_set_1 (.ref l); repeat (any_goals (first | assumption | wp_step))
  -- the fresh set stands at z
  generalize hz : s.heap.objs.size = z at h
  have hpush : (s.heap.push (mtSet w)).get? z = some (mtSet w) := by rw [← hz]; exact Heap.get?_push_size _ rfl
  refine codeAny_mono (code_set_led1 (.ref l) (E := E) (Q₁ := fun ob s' => ob = .ref z ∧ s' = { s with heap := s.heap.push (mtSet w) }) ⟨by rw [hz], rfl⟩) fun res s' hres => ?_
  cases res with
  | error _ => exact hres
  | ok flow =>
    cases flow with
    | ret ob =>
      obtain ⟨rfl, rfl⟩ := hres
      have hty : Shared.TypeIs { s with heap := s.heap.push (mtSet w) } (.ref z) "set" := ⟨_, hpush, rfl⟩
      have i1 := F.called_set.init.lookup
      have i2 := F.called_set.init.bind (.ref z); repeat (any_goals (first | assumption | wp_step))
      have hgoal := h
      refine codeAny_mono (codeAny_call_builtin (R := wants (fun v s2 => v = .none ∧ ∃ h' tk c, s2 = { s with heap := h', toks := tk } ∧ SetR w h' z (fun j => decide (j ∈ ns)) c ∧ c ≤ ns.length ∧ ∀ b o, s.heap.get? b = some o → h'.get? b = some o) E)
        F.called_set.init.plain F.entry_set_init (check_set_init_1 hty ?_)) fun r2 s2 hr2 => ?_
      · obtain ⟨lo, hlo, hcl, ln, hld⟩ := hl
        obtain ⟨c0, d0, dat0, sl0⟩ := lo
        simp only at hcl hld
        subst hcl hld
        have lkeep : (s.heap.push (mtSet w)).get? l = some { cls := .type "list", dict := d0, data := .seq items ln, slots := sl0 } := Heap.get?_push_of_some _ hlo
        have e1 := F.sub_list_set
        have e2 := F.sub_list_frozenset
        have e3 : (Value.type "list" == Value.type "dict") = false := by decide
        have llist : (s.heap.push (mtSet w)).IsList l items := ⟨_, lkeep, rfl, ln, rfl⟩
        have lsz : l < z := by rw [← hz]; exact Heap.lt_size hlo
        have psz : (s.heap.push (mtSet w)).objs.size = z + 1 := by rw [← hz]; exact Heap.size_push ..
        unfold Builtin.«set.__init__» noKeywords Builtin.Frozenset.updateFrom; generalize hIt : pyIter = It
        wp_walk
        subst hIt
        refine wpAny_pyIter_list llist (wpAny_bind (wpAny_runValue ?_))
        have hand : A.in1.in1.in1.handled = none := by simp [hh]
        have apart : l ≠ (s.heap.push (mtSet w)).objs.size := by rw [psz]; exact Nat.ne_of_lt (Nat.lt_succ_of_lt lsz)
        have zfree : z ∉ [(s.heap.push (mtSet w)).objs.size, l] := by
          rw [psz]
          intro hm
          rcases List.mem_cons.mp hm with q | q
          · exact absurd q (Nat.ne_of_lt (Nat.lt_succ_self z))
          · exact absurd (List.mem_singleton.mp q).symm (Nat.ne_of_lt lsz)
        have each : ∀ (i : Nat) (v : Value), items[i]? = some v → ∃ k t, ns[i]? = some k ∧ v = .int k t := fun i v hv => by
          have hi : i < ns.length := by rw [← hcount]; exact (Array.getElem?_eq_some_iff.mp hv).1
          obtain ⟨t, e⟩ := PyProof.Rows.IntsAre.int_at hit i v (by rw [Array.getElem?_toList]; exact hv)
          exact ⟨ns[i], t, List.getElem?_eq_getElem hi, by rw [e, List.getD_eq_getElem?_getD, List.getElem?_eq_getElem hi]; rfl⟩
        refine set_update_ints ((Walks.list hand _ l apart items).toS) z zfree ns hcount hb each (items.size - 0) 0 _ (by omega) (Nat.zero_le _)
          ⟨⟨_, Heap.get?_push_size _ rfl, rfl, rfl⟩, llist.push _⟩ ⟨0, Nat.le_refl 0, setR_new_at (Heap.get?_push_of_some _ hpush)⟩ fun s3 c3 mv c3n st3 => ?_
        obtain ⟨h3, g3, d3, tk3, os3⟩ := s3
        obtain rfl : g3 = s.gens := mv.gens
        obtain rfl : d3 = s.drawn := mv.drawn
        obtain rfl : os3 = s.os := mv.os
        show wpAny _ _ _ _ _ _; refine wpAny_pure ?_; show wpAny _ _ (ret Value.none) _ _ _
        refine wpAny_pure ⟨rfl, h3, tk3, c3, rfl, st3, by rw [← hcount]; exact c3n, fun b o e => ?_⟩
        have bz : b < z := by rw [← hz]; exact Heap.lt_size e
        refine mv.heap b o (fun hm => ?_) (Heap.get?_push_of_some _ (Heap.get?_push_of_some _ e))
        rcases List.mem_cons.mp hm with q | q
        · exact absurd q (Nat.ne_of_lt bz)
        · rw [List.mem_singleton.mp q, psz] at bz
          exact absurd (Nat.lt_trans (Nat.lt_succ_self z) bz) (Nat.lt_irrefl z)
      · cases r2 with
        | error _ => exact hr2
        | ok fl2 =>
          cases fl2 with
          | ret _ =>
            obtain ⟨rfl, h', tk, c, rfl, k1, k2, k3⟩ := hr2
            (repeat (any_goals (first | assumption | wp_step))); exact hgoal _ _ _ k1 k2 k3
          | _ => exact hr2.elim
    | _ => exact hres.elim
end
end L2

set_option Elab.async false
set_option linter.all false
set_option maxRecDepth 100000
set_option maxHeartbeats 3200000
namespace L2
open PySem PySem.Spec PyProof.Rows
section
variable {X : Cx}
/-- set(xs), xs a list of ints -/
def rSetOfL (K : PySem.W.Frag) (w : World) : List V → Hp → VK → Prop := fun xs H Q => ∃ (l : Addr) (ns : List Int), xs = [V.ref l] ∧ SqL K H l (ns.map V.int) ∧ ns.length + 1 < scanBound ∧
  ∀ (a : Addr) (c : Nat), H a = none → c ≤ ns.length → Q (.ref a) (upd H a (SetO w a (fun j => decide (j ∈ ns)) c))
theorem cr_setOfL (calm : X.calm = true) : CallR X (.type "set") (rSetOfL X.K X.w) := by
  intro pins s σ H vs us Q inv rel asked
  obtain ⟨l, ns, rfl, sq, few, q⟩ := asked
  rw [Vals.ref1 rel]
  obtain ⟨its, rv, pl, _⟩ := inv.list sq
  have unused : H s.heap.objs.size = none := inv.hok.fresh (Nat.le_refl _)
  refine set_ofL ns (inv.ok.hd calm) pl.isList (by simpa using ints_vals rv) few fun g u c R cn k => ?_
  exact ⟨.ref s.heap.objs.size, upd H s.heap.objs.size (SetO X.w s.heap.objs.size (fun j => decide (j ∈ ns)) c), inv.laid (t' := u) k (Nat.le_refl _) (setO_new R), rfl, q _ c unused cn⟩
end
end L2

set_option Elab.async false
set_option linter.all false
set_option maxRecDepth 100000
set_option maxHeartbeats 4000000
/-! sorted(set(E)), E a list of ints -/
namespace Sh
open PySem PySem.Spec L2 PyProof.Rows
def insU (k : Int) : List Int → List Int
  | [] => [k]
  | i :: r => if k < i then k :: i :: r else if k = i then i :: r else i :: insU k r
def sortU : List Int → List Int
  | [] => []
  | k :: r => insU k (sortU r)
theorem mem_insU {k j : Int} : ∀ {l : List Int}, j ∈ insU k l ↔ j = k ∨ j ∈ l
  | [] => by simp [insU]
  | i :: r => by
    unfold insU
    split
    · simp
    · split
      · rename_i e
        subst e
        simp
      · rw [List.mem_cons, mem_insU, List.mem_cons]
        constructor
        · rintro (h | h | h)
          · exact .inr (.inl h)
          · exact .inl h
          · exact .inr (.inr h)
        · rintro (h | h | h)
          · exact .inr (.inl h)
          · exact .inl h
          · exact .inr (.inr h)
theorem mem_sortU {j : Int} : ∀ {l : List Int}, j ∈ sortU l ↔ j ∈ l
  | [] => by simp [sortU]
  | k :: r => by rw [sortU, mem_insU, mem_sortU, List.mem_cons]
theorem asc_insU {k : Int} : ∀ {l : List Int}, l.Pairwise (· < ·) → (insU k l).Pairwise (· < ·)
  | [], _ => by simp [insU]
  | i :: r, h => by
    rw [List.pairwise_cons] at h
    unfold insU
    split
    · rename_i hk
      refine List.pairwise_cons.mpr ⟨fun j hj => ?_, List.pairwise_cons.mpr h⟩
      rcases List.mem_cons.mp hj with e | e
      · omega
      · have := h.1 j e
        omega
    · split
      · exact List.pairwise_cons.mpr h
      · refine List.pairwise_cons.mpr ⟨fun j hj => ?_, asc_insU h.2⟩
        rcases mem_insU.mp hj with e | e
        · omega
        · exact h.1 j e
theorem asc_sortU : ∀ {l : List Int}, (sortU l).Pairwise (· < ·)
  | [] => by simp [sortU]
  | k :: r => asc_insU asc_sortU
theorem asc_eq : ∀ {l m : List Int}, l.Pairwise (· < ·) → m.Pairwise (· < ·) → (∀ j, j ∈ l ↔ j ∈ m) → l = m
  | [], [], _, _, _ => rfl
  | [], i :: m, _, _, h => absurd ((h i).mpr List.mem_cons_self) (by simp)
  | i :: l, [], _, _, h => absurd ((h i).mp List.mem_cons_self) (by simp)
  | i :: l, k :: m, hl, hm, h => by
    rw [List.pairwise_cons] at hl hm
    have e : i = k := by
      have h1 := (h i).mp List.mem_cons_self
      have h2 := (h k).mpr List.mem_cons_self
      rcases List.mem_cons.mp h1 with e | e
      · exact e
      · rcases List.mem_cons.mp h2 with e2 | e2
        · exact e2.symm
        · have := hm.1 i e
          have := hl.1 k e2
          omega
    subst e
    rw [asc_eq hl.2 hm.2 fun j => ?_]
    have hj := h j
    rw [List.mem_cons, List.mem_cons] at hj
    constructor
    · intro z
      rcases hj.mp (.inr z) with e | e
      · have := hl.1 j z
        omega
      · exact e
    · intro z
      rcases hj.mpr (.inr z) with e | e
      · have := hm.1 j z
        omega
      · exact e
def eSortSet (f : EF) : EF := fun ℓ A => (f ℓ A).bind fun a A => match (sq? a A).bind intsA with
  | some ns => if ns.length < 64 then .ok (.ref A.length) (A ++ [.lst ((sortU ns).map AV.int)]) else .bad
  | none => .bad
section
variable {R : Rc} {X : Cx} {W : WX} {e : Expr} {te : TE} {f : EF}
theorem VRs.ints {ι : List Addr} {H : Hp} : ∀ {ns : List Int}, VRs R ι H (ns.map AV.int) (ns.map V.int)
  | [] => by unfold VRs; rfl
  | n :: ns => by
    show VRs R ι H (AV.int n :: ns.map AV.int) (V.int n :: ns.map V.int)
    unfold VRs
    exact ⟨_, _, rfl, mk_int, VRs.ints⟩
def tSortSet (X : Cx) (te : TE) : TE := tCB (rSortedSet X.w) (tCons (tCB (rSetOfL X.K X.w) (tCons te tNil)) tNil)
theorem pe_sortSet {p1 p2 pos1 pos2 : Pos} (calm : X.calm = true) (h : PE X e te) (hg1 : Gl X "sorted") (hg2 : Gl X "set") (hm1 : X.mg "sorted" = none) (hm2 : X.mg "set" = none) (hs : starEach (e :: []) X.env = (false, eval e X.env) :: starEach [] X.env) :
    PE X (.Call (.Name "sorted" p1) [.Call (.Name "set" p2) [e] [] pos2] [] pos1) (tSortSet X te) := by
  have h2 : PE X (.Call (.Name "set" p2) [e] [] pos2) (tCB (rSetOfL X.K X.w) (tCons te tNil)) :=
    pe_callTy (cr_setOfL calm) hg2 hm2 (by decide +kernel) (pa_cons h pa_nil hs) (by decide) (by decide) hs rfl
  exact pe_callB (cr_sortedSet calm) hg1 hm1 (by decide +kernel) (pa_cons h2 pa_nil) (by decide) (by decide) rfl rfl
theorem sim_sortSet (hK : X.K = R.K) (h : Sim R (VR R) W te f) : Sim R (VR R) W (tSortSet X te) (eSortSet f) := fun σ ℓ H ι A Q L M q =>
  h σ ℓ H ι A _ L M (q.bind fun a1 A1 ι1 H1 x U1 M1 v1 q1 => by
    cases e0 : sq? a1 A1 with
    | none => rw [e0] at q1; exact False.elim q1
    | some xs =>
      rw [e0] at q1
      simp only [Option.bind_some] at q1
      cases e1 : intsA xs with
      | none => rw [e1] at q1; exact False.elim q1
      | some ns =>
        rw [e1] at q1
        simp only at q1
        split at q1
        · rename_i hn
          obtain ⟨p, vs, rfl, h1, w1⟩ := sq_rd M1 e0 v1
          rw [intsA_ok e1 w1] at h1
          have hb : scanBound = 4096 := rfl
          refine ⟨p, ns, rfl, by rw [hK]; exact h1, by omega, fun b c hb hc => ⟨b, _, c, rfl, upd_same, by omega, fun ns' p' hp hm hl hn' => ?_⟩⟩
          have e2 : ns' = sortU ns := asc_eq hp asc_sortU fun j => by rw [hm j, mem_sortU]; simp
          subst e2
          exact (q1.up (Up.laid hb)).lstNew (M1.laid hb) VRs.ints p' hn'
        · exact False.elim q1)
end
end Sh

set_option Elab.async false
set_option linter.all false
set_option maxRecDepth 100000
set_option maxHeartbeats 4000000
/-! own operators: ==, o[i], o[i] = v, len(o), isinstance(o, C), a class in a local name -/
namespace Sh
open PySem PySem.W L2 PyProof.Rows
section
variable {R : Rc} {X : Cx} {W : WX} {pins : List (Addr × Obj)} {σ : L2.St} {H : Hp} {s : Shared}
/-- a call somewhere below the running body -/
theorem run_fnA {A1 : Around} {k : Nat} {f : Addr} {sp : Sp} {E : L2.St → XK} {CX : CXT} {Q : VK} {us : List Value} {vs : List V} (F : FnR X.prog X.w X.K X.mg X.base CX k f sp) (hr : Room k A1) (hfr : A1.frames = X.A.frames) (hx : PassesAt CX X σ (E σ))
    (I : Inv X pins σ H s) (r : Vals vs us) (h : sp vs H Q (E σ)) : wpAny (model X.prog X.w) A1 (call (.ref f) us) (EP X pins σ Q) X.xe s := by
  have e0 : Env0 X.prog X.w X.K X.mg X.base A1 X.stack s H := by
    have e := I.env0
    exact ⟨by rw [hfr]; exact e.frames, e.mod, e.bs, e.bsz, e.funs, e.frf, e.hok, e.bare⟩
  refine wpAny_call (codeAny_mono (F.go hr e0 r h) fun r s' hq => ?_)
  cases r with
  | error e => exact hx pins H s e s' I hq
  | ok fl =>
    cases fl with
    | ret u => exact I.after hq
    | next => exact False.elim hq
    | brk => exact False.elim hq
    | cont => exact False.elim hq
/-- an own special method of the object x is asked for by values -/
def OwnC (R : Rc) (X : Cx) (W : WX) (m : Str) (σ : L2.St) (x : V) (ys : List V) (H : Hp) (Q : VK) : Prop :=
  ∃ (C f : Addr) (g : GF) (k : Nat), MFacts R X m C f g k ∧ ∃ a dx fs, x = .ref a ∧ H a = some (.ins C dx fs) ∧ SpG R g (x :: ys) H Q (fun c d H' => W c d σ H')
theorem ins_J {a C dx : Addr} {fs : List (Str × V)} (I : Inv X pins σ H s) (e : H a = some (.ins C dx fs)) : ∃ ox od, PySem.W.InstAt s.heap a ox C (some od) := by
  obtain ⟨mA, J, _⟩ := ins_get I.hok e
  obtain ⟨od, J, _⟩ := J.look
  exact ⟨_, _, J⟩
/-- o == p, both of one class -/
def rOwnEq (R : Rc) (X : Cx) (W : WX) (σ : L2.St) (x y : V) (H : Hp) (Q : VK) : Prop :=
  ∃ (C f : Addr) (g : GF) (k : Nat), MFacts R X "__eq__" C f g k ∧ ∃ a b dx fs dy gs, x = .ref a ∧ y = .ref b ∧ H a = some (.ins C dx fs) ∧ H b = some (.ins C dy gs) ∧ SpG R g [x, y] H (fun v H' => (∃ k, v = .bl k) ∧ Q v H') (fun c d H' => W c d σ H')
theorem own_eq {x y : V} {v u : Value} {Q : VK} (tk : Takes X W) (I : Inv X pins σ H s) (rx : RelV x v) (ry : RelV y u) (h : rOwnEq R X W σ x y H Q) : wpAny (model X.prog X.w) X.A (compareOp .Eq v u) (EP X pins σ Q) X.xe s := by
  obtain ⟨C, f, g, k, MF, a, b, dx, fs, dy, gs, rfl, rfl, ha, hb, q⟩ := h
  cases rx
  cases ry
  obtain ⟨ox, od, J⟩ := ins_J I ha
  obtain ⟨oy, od2, J2⟩ := ins_J I hb
  obtain ⟨m, hF⟩ := I.fr
  have hu : X.A.units < cLine := by have := MF.hr.un; omega
  refine PySem.W.cmp_ofEq (PySem.W.cmp_K (tb := .ref C) hu hF I.ok.mod.kin J J2.type (by simp [PySem.W.notFirst]) MF.hm.at_ MF.hm.fn ?_)
  refine thn (run_fnA (E := fun σ c d H' => W c d σ H') (us := [.ref a, .ref b]) (vs := [.ref a, .ref b]) MF.F (MF.hr.mono (by omega)) rfl (passAt tk σ) I (.cons rfl (.cons rfl .nil)) q) fun z s' ⟨v, H', I', rv, ⟨⟨c, e⟩, q'⟩⟩ => ?_
  subst e
  cases rv
  exact ⟨.bl c, H', I', rfl, q'⟩
/-- o[i] -/
theorem own_ix {value slice : Expr} {x y : V} {v u : Value} {Q : VK} (tk : Takes X W) (I : Inv X pins σ H s) (rx : RelV x v) (ry : RelV y u) (h : OwnC R X W "__getitem__" σ x [y] H Q)
    (hsl : subscripted slice true v u = runValue (.builtin "lifetime.subscript" ⟨[v, u], []⟩)) : wpAny (model X.prog X.w) X.A (subscriptTail value slice v u) (EP X pins σ Q) X.xe s := by
  obtain ⟨C, f, g, k, MF, a, dx, fs, rfl, ha, q⟩ := h
  cases rx
  obtain ⟨ox, od, J⟩ := ins_J I ha
  obtain ⟨m, hF⟩ := I.fr
  refine PySem.W.sub_K hF I.ok.mod.kin J MF.hm.at_ (MF.x.gi f MF.hm.at_) MF.hm.fn ?_ hsl
  exact run_fnA (E := fun σ c d H' => W c d σ H') (us := [.ref a, u]) (vs := [.ref a, y]) MF.F (MF.hr.mono (by omega : _ + 1 ≤ _ + 4)).in1 rfl (passAt tk σ) I (.cons rfl (.cons ry .nil)) q
/-- o[i] = z -/
theorem own_set {x y z : V} {v u t : Value} {Q : Hp → Prop} (tk : Takes X W) (I : Inv X pins σ H s) (rx : RelV x v) (ry : RelV y u) (rz : RelV z t) (h : OwnC R X W "__setitem__" σ x [y, z] H fun _ H' => Q H') :
    wpAny (model X.prog X.w) X.A (setItem v u t) (fun _ s' => ∃ H', Inv X pins σ H' s' ∧ Q H') X.xe s := by
  obtain ⟨C, f, g, k, MF, a, dx, fs, rfl, ha, q⟩ := h
  cases rx
  obtain ⟨ox, od, J⟩ := ins_J I ha
  have XK := I.kIn
  unfold setItem sequenceKey
  refine wpAny_holding (wpAny_bind (wpAny_bind (J.type.here ?_)))
  refine wpAny_bind ((PySem.W.anyM_none XK MF.x.ns).here ?_)
  rw [if_pos (show (!false) = true from rfl)]
  refine wpAny_pure (wpAny_bind (PySem.W.special_fn XK J MF.hm.at_ (beq_iff_eq.mp MF.hm.fn) ?_))
  refine thn (run_fnA (E := fun σ c d H' => W c d σ H') (us := [.ref a, u, t]) (vs := [.ref a, y, z]) MF.F (MF.hr.mono (by omega)) rfl (passAt tk σ) I (.cons rfl (.cons ry (.cons rz .nil))) q) fun w s' ⟨v, H', I', rv, q'⟩ => ?_
  exact wpAny_pure ⟨H', I', q'⟩
/-- len(o) -/
theorem own_len {x : V} {v : Value} {Q : VK} (tk : Takes X W) (I : Inv X pins σ H s) (rx : RelV x v) (h : OwnC R X W "__len__" σ x [] H fun v H' => (∃ n : Nat, v = .int n ∧ n ≤ sizeLine) ∧ Q v H') :
    wpAny (model X.prog X.w) X.A (call (.builtin "len") [v]) (EP X pins σ Q) X.xe s := by
  obtain ⟨C, f, g, k, MF, a, dx, fs, rfl, ha, q⟩ := h
  cases rx
  obtain ⟨ox, od, J⟩ := ins_J I ha
  obtain ⟨m, hF⟩ := I.fr
  refine PySem.W.len_K hF I.ok.mod.kin J MF.hm.at_ MF.hm.fn ?_
  refine thn (run_fnA (E := fun σ c d H' => W c d σ H') (us := [.ref a]) (vs := [.ref a]) MF.F (MF.hr.mono (by omega : _ + 1 ≤ _ + 4)).in1 rfl (passAt tk σ) I (.cons rfl .nil) q) fun w s' ⟨v, H', I', rv, ⟨⟨n, e, hn⟩, q'⟩⟩ => ?_
  subst e
  obtain ⟨t, rfl⟩ := rv
  have hs : sizeLine = 16777216 := sizeLine_eq
  exact ⟨⟨by omega, by omega⟩, .int n, H', I'.tok _, ⟨_, rfl⟩, q'⟩
end
end Sh

set_option Elab.async false
set_option linter.all false
set_option maxRecDepth 100000
set_option maxHeartbeats 4000000
/-! own operators in the abstract heap; classes in local names; slices that are stored -/
namespace Sh
open PySem PySem.W L2 PyProof.Rows
def ownG (tb : Str → Option GF) (a : AV) (as : List AV) (A : AH) : Res AV := match a with
  | .ref n => match A.ins? n with
    | some (c, _) => (match tb c with | some g => gCall g (.ref n :: as) A | none => .bad)
    | none => .bad
  | _ => .bad
def asBool (v : AV) (A : AH) : Res AV := match v with
  | .bl k => .ok (.bl k) A
  | _ => .bad
def ownEq (tb : Str → Option GF) (a b : AV) (A : AH) : Res AV := match a, b with
  | .ref n, .ref m => (match A.ins? n, A.ins? m with
    | some (c, _), some (c', _) => if c' = c then (ownG tb (.ref n) [.ref m] A).bind asBool else .bad
    | _, _ => .bad)
  | _, _ => .bad
def asLen (v : AV) (A : AH) : Res AV := match v with
  | .int i => if 0 ≤ i ∧ i ≤ (sizeLine : Int) then .ok (.int i) A else .bad
  | _ => .bad
def ownIx (tb : Str → Option GF) (a b : AV) (A : AH) : Res AV := ownG tb a [b] A
def ownLen (tb : Str → Option GF) (as : List AV) (A : AH) : Res AV := match as with
  | [a] => (ownG tb a [] A).bind asLen
  | _ => .bad
def eOwnLen (tb : Str → Option GF) (f : AF) : EF := fun ℓ A => (f ℓ A).bind fun as A => ownLen tb as A
def sOwnSet (tb : Str → Option GF) (fv fo fi : EF) : SF := fun ℓ A => (fv ℓ A).toS ℓ fun v A => (fo ℓ A).toS ℓ fun o A => (fi ℓ A).toS ℓ fun i A => (ownG tb o [i, v] A).toS ℓ fun _ A => .nx ℓ A
def opSetSl (o v l h : AV) (A : AH) : Option AH := match o, v, l, h with
  | .ref n, .ref m, .int i, .int j => (match A.lst? n, A.lst? m with
    | some xs, some ys => if n ≠ m ∧ 0 ≤ i ∧ i ≤ j ∧ j ≤ (xs.length : Int) ∧ xs.length + ys.length ≤ sizeLine then some (A.set n (.lst (xs.take i.toNat ++ ys ++ xs.drop j.toNat))) else none
    | _, _ => none)
  | _, _, _, _ => none
def sSetSl (fv fo fl fh : EF) : SF := fun ℓ A => (fv ℓ A).toS ℓ fun v A => (fo ℓ A).toS ℓ fun o A => (fl ℓ A).toS ℓ fun l A => (fh ℓ A).toS ℓ fun h A => match opSetSl o v l h A with
  | some A' => .nx ℓ A'
  | none => .bad
/-- a class in a value, called -/
def eMakeV (tb : Str → Option GF) (fc : EF) (f : AF) : EF := fun ℓ A => (fc ℓ A).bind fun v A => match v with
  | .cls c => (match tb c with | some g => eMake c g f ℓ A | none => .bad)
  | _ => .bad
/-- C.m(..), m a classmethod -/
def eCMeth (tb : Str → Option GF) (fo : EF) (f : AF) : EF := fun ℓ A => (fo ℓ A).bind fun v A => match v with
  | .cls c => (match tb c with | some g => (f ℓ A).bind fun as A => gCall g (.cls c :: as) A | none => .bad)
  | _ => .bad
section
variable {R : Rc} {X : Cx} {W : WX} {ι : List Addr} {H : Hp} {A : AH}
theorem ownG_ok {tb : Str → Option GF} {m : Str} {σ : L2.St} {a : AV} {as : List AV} {x : V} {ys : List V} {Q : VK} (hT : MethOk R X tb m) (M : Emb R ι A H) (ra : VR R ι H a x) (rs : VRs R ι H as ys) (q : Then R (VR R) (ownG tb a as A) ι H Q (fun c d H' => W c d σ H')) : OwnC R X W m σ x ys H Q := by
  unfold ownG at q
  cases a with
  | ref n =>
    simp only at q
    split at q
    · rename_i c fs e
      split at q
      · rename_i g eg
        obtain ⟨C, f, k, hC, MF⟩ := hT c g eg
        obtain ⟨p, hp, rfl⟩ := vr_ref ra
        obtain ⟨C', dx, fs', h1, h2, h3⟩ := ins_rd M e hp
        have : C' = C := by rw [hC] at h1; exact (Option.some.inj h1).symm
        subst this
        exact ⟨C', f, g, k, MF, p, dx, fs', rfl, h2, ι, A, .ref n :: as, M, by unfold VRs; exact ⟨.ref p, ys, rfl, mk_ref hp, rs⟩, q⟩
      · exact False.elim q
    · exact False.elim q
  | _ => exact False.elim q
def tOwn2 (R : Rc) (X : Cx) (W : WX) (m : Str) (ta tb : TE) : TE := fun σ H Q => ta σ H fun x H1 => tb σ H1 fun y H2 => OwnC R X W m σ x [y] H2 Q
def tOwnEq (R : Rc) (X : Cx) (W : WX) (ta tb : TE) : TE := fun σ H Q => ta σ H fun x H1 => tb σ H1 fun y H2 => rOwnEq R X W σ x y H2 Q
def tOwnLen (R : Rc) (X : Cx) (W : WX) (t : TA) : TE := fun σ H Q => t σ H fun vs H1 => ∃ x, vs = [x] ∧ OwnC R X W "__len__" σ x [] H1 fun v H' => (∃ n : Nat, v = .int n ∧ n ≤ sizeLine) ∧ Q v H'
theorem pe_ownIx {a b : Expr} {ta tb : TE} {pos : Pos} (tk : Takes X W) (ha : PE X a ta) (hb : PE X b tb) (hs : ∀ o i, subscripted b true o i = runValue (.builtin "lifetime.subscript" ⟨[o, i], []⟩)) : PE X (.Subscript a b pos) (tOwn2 R X W "__getitem__" ta tb) :=
  ⟨fun pins s σ H Q I h => Subscript_ (binT ha hb I h fun v u s2 x y H2 I2 rx ry q => own_ix tk I2 rx ry q (hs v u))⟩
theorem pe_ownEq {a b : Expr} {ta tb : TE} {pos : Pos} (tk : Takes X W) (ha : PE X a ta) (hb : PE X b tb) (hm : behindInMarks .Eq b = false) : PE X (.Compare a [.Eq] [b] pos) (tOwnEq R X W ta tb) :=
  ⟨fun pins s σ H Q I h => wpAny_Compare1 (binT ha hb I h fun v u s2 x y H2 I2 rx ry q => own_eq tk I2 rx ry q) hm⟩
theorem pe_ownLen {e : Expr} {t : TA} {p pos : Pos} (tk : Takes X W) (hg : Gl X "len") (hm : X.mg "len" = Option.none) (ha : PA X [e] t) (hst : starEach [e] X.env = (false, eval e X.env) :: starEach [] X.env) :
    PE X (.Call (.Name "len" p) [e] [] pos) (tOwnLen R X W t) := by
  refine ⟨fun pins s σ H Q I h => ?_⟩
  refine wpAny_Call_Name_kw (ld_blt (u := .builtin "len") I hg hm (by first | rfl | decide +kernel) ?_ (by decide) (by decide))
  refine PyProof.Rows.callWith_builtin1 (thn (ha.run pos pins s σ H _ I h) fun us s1 ⟨vs, H1, I1, r1, x, ev, q⟩ => ?_) hst rfl
  subst ev
  obtain ⟨u, rfl, ru⟩ := vals1 r1
  exact own_len tk I1 ru q
theorem sim_ownIx {ta tb' : TE} {fa fb : EF} {tb : Str → Option GF} {m : Str} (hT : MethOk R X tb m) (ha : Sim R (VR R) W ta fa) (hb : Sim R (VR R) W tb' fb) : Sim R (VR R) W (tOwn2 R X W m ta tb') (eOp (ownIx tb) fa fb) := fun σ ℓ H ι A Q L M q =>
  ha σ ℓ H ι A _ L M (q.bind fun a1 A1 ι1 H1 x U1 M1 v1 q1 => hb σ ℓ H1 ι1 A1 _ (L.up U1) M1 (q1.bind fun a2 A2 ι2 H2 y U2 M2 v2 q2 => ownG_ok hT M2 (v1.up U2) (by unfold VRs; exact ⟨y, [], rfl, v2, by unfold VRs; rfl⟩) q2))
theorem asBool_ok {v : AV} {y : V} {Q : VK} {E : XK} (M : Emb R ι A H) (r : VR R ι H v y) (q : Then R (VR R) (asBool v A) ι H Q E) : (∃ k, y = .bl k) ∧ Q y H := by
  cases v with
  | bl k => exact ⟨⟨k, vr_bl r⟩, q.here M r⟩
  | _ => exact False.elim q
theorem asLen_ok {v : AV} {y : V} {Q : VK} {E : XK} (M : Emb R ι A H) (r : VR R ι H v y) (q : Then R (VR R) (asLen v A) ι H Q E) : (∃ n : Nat, y = .int n ∧ n ≤ sizeLine) ∧ Q y H := by
  cases v with
  | int i =>
    unfold asLen at q
    simp only at q
    by_cases h : 0 ≤ i ∧ i ≤ (sizeLine : Int)
    · rw [if_pos h] at q
      obtain ⟨n, rfl⟩ := Int.eq_ofNat_of_zero_le h.1
      exact ⟨⟨n, vr_int r, by omega⟩, q.here M r⟩
    · rw [if_neg h] at q
      exact False.elim q
  | _ => exact False.elim q
theorem sim_ownEq {ta tb' : TE} {fa fb : EF} {tb : Str → Option GF} (hT : MethOk R X tb "__eq__") (ha : Sim R (VR R) W ta fa) (hb : Sim R (VR R) W tb' fb) : Sim R (VR R) W (tOwnEq R X W ta tb') (eOp (ownEq tb) fa fb) := fun σ ℓ H ι A Q L M q =>
  ha σ ℓ H ι A _ L M (q.bind fun a1 A1 ι1 H1 x U1 M1 v1 q1 => hb σ ℓ H1 ι1 A1 _ (L.up U1) M1 (q1.bind fun a2 A2 ι2 H2 y U2 M2 v2 q2 => by
    have v1' := v1.up U2
    unfold ownEq at q2
    split at q2
    · rename_i n m
      split at q2
      · rename_i c fs c' gs e1 e2
        split at q2
        · rename_i hc
          subst hc
          obtain ⟨p, hp, rfl⟩ := vr_ref v1'
          obtain ⟨p2, hp2, rfl⟩ := vr_ref v2
          obtain ⟨C1, dx, fs', h1, h2, h3⟩ := ins_rd M2 e1 hp
          obtain ⟨C2, dx2, fs2, k1, k2, k3⟩ := ins_rd M2 e2 hp2
          have : C2 = C1 := by rw [h1] at k1; exact (Option.some.inj k1).symm
          subst this
          obtain ⟨C, f, g, k, MF, a, dx', fs'', ea, eH, q3⟩ := ownG_ok (W := W) (σ := σ) (Q := fun v H' => (∃ k, v = .bl k) ∧ Q v H') hT M2 (mk_ref hp) (ys := [.ref p2]) (by unfold VRs; exact ⟨_, [], rfl, v2, by unfold VRs; rfl⟩) (q2.bind fun v A3 ι3 H3 y U3 M3 v3 q3 => asBool_ok M3 v3 q3)
          cases ea
          rw [h2] at eH
          cases eH
          exact ⟨_, f, g, k, MF, p, p2, dx, fs', dx2, fs2, rfl, rfl, h2, k2, q3⟩
        · exact False.elim q2
      · exact False.elim q2
    · exact False.elim q2))
theorem sim_ownLen {t : TA} {f : AF} {tb : Str → Option GF} (hT : MethOk R X tb "__len__") (h : Sim R (VRs R) W t f) : Sim R (VR R) W (tOwnLen R X W t) (eOwnLen tb f) := fun σ ℓ H ι A Q L M q =>
  h σ ℓ H ι A _ L M (q.bind fun as A1 ι1 H1 xs U1 M1 v1 q1 => by
    unfold ownLen at q1
    split at q1
    · rename_i a
      obtain ⟨x, rfl, r⟩ := vrs1 v1
      exact ⟨x, rfl, ownG_ok hT M1 r (by unfold VRs; rfl) (q1.bind fun v A3 ι3 H3 y U3 M3 v3 q3 => asLen_ok M3 v3 q3)⟩
    · exact False.elim q1)
/-! ### o[i] = v -/
def tOwnSet (R : Rc) (X : Cx) (W : WX) (tv to ti : TE) : TS := fun D σ H => tv σ H fun z H1 => to σ H1 fun x H2 => ti σ H2 fun y H3 => OwnC R X W "__setitem__" σ x [y, z] H3 fun _ H' => D.nx σ H'
theorem ps_ownSet {o i e : Expr} {tv to ti : TE} {p pos : Pos} (tk : Takes X W) (he : PE X e tv) (ho : PE X o to) (hi : PE X i ti)
    (ha : ∀ v, assign (.Subscript o i p) X.env v = (do
      let ov ← holding [v] (eval o X.env)
      let iv ← holding [v, ov] (eval i X.env)
      standAt p
      holding [v, ov, iv] (setItem ov iv v)
      release [v, ov, iv] [])) (hs : swapsWithSole [.Subscript o i p] e pos.line X.env = pure false) (hw : swappedStores [.Subscript o i p] e X.env = pure none := by rfl)
    (h1 : (assignEach [.Subscript o i p] X.env).map (·.2) = [assign (.Subscript o i p) X.env] := by rfl) : PS X (.Assign [.Subscript o i p] e pos) (tOwnSet R X W tv to ti) := by
  refine ⟨fun pins s σ H D I h => ?_⟩
  refine wpAny_Assign_stores (thn (he.run pins s σ H _ I h) fun v s1 ⟨z, H1, I1, r1, q1⟩ => ?_) hs hw
  rw [h1]
  have go : wpAny (model X.prog X.w) X.A (assign (.Subscript o i p) X.env v) (fun _ s' => ∃ σ' H', Inv X pins σ' H' s' ∧ D.nx σ' H') X.xe s1 := by
    rw [ha]
    refine wpAny_bind (wpAny_holding (thn (ho.run pins s1 σ H1 _ I1 q1) fun ov s2 ⟨x, H2, I2, r2, q2⟩ => ?_))
    refine wpAny_bind (wpAny_holding (thn (hi.run pins s2 σ H2 _ I2 q2) fun iv s3 ⟨y, H3, I3, r3, q3⟩ => ?_))
    refine wpAny_bind (wpAny_standAt (wpAny_bind (wpAny_holding (thn (own_set (Q := fun H' => D.nx σ H') tk I3 r2 r3 r1 q3) fun _ s4 ⟨H4, I4, q4⟩ => ?_))))
    exact wpAny_release ⟨σ, H4, I4, q4⟩
  exact thn go fun _ s2 q => q
theorem simS_ownSet {tv to ti : TE} {fv fo fi : EF} {tb : Str → Option GF} (hT : MethOk R X tb "__setitem__") (hv : Sim R (VR R) W tv fv) (ho : Sim R (VR R) W to fo) (hi : Sim R (VR R) W ti fi) : SimS R W (tOwnSet R X W tv to ti) (sOwnSet tb fv fo fi) := fun D σ ℓ H ι A L M q =>
  hv σ ℓ H ι A _ L M (ThenS.ofE L q fun a A1 ι1 H1 x U1 M1 r1 L1 q1 => ho σ ℓ H1 ι1 A1 _ L1 M1 (ThenS.ofE L1 q1 fun b A2 ι2 H2 y U2 M2 r2 L2' q2 => hi σ ℓ H2 ι2 A2 _ L2' M2 (ThenS.ofE L2' q2 fun c A3 ι3 H3 z U3 M3 r3 L3 q3 =>
    ownG_ok hT M3 (r2.up U3) (ys := [z, x]) (by unfold VRs; exact ⟨z, [x], rfl, r3, by unfold VRs; exact ⟨x, [], rfl, (r1.up U2).up U3, by unfold VRs; rfl⟩⟩) (ThenS.ofE L3 q3 fun d A4 ι4 H4 w U4 M4 r4 L4 q4 => q4 ι4 H4 σ (Up.refl R ι4 H4) M4 L4))))
/-! ### o[a:b] = v -/
def tSetSl (tv to tl th : TE) : TS := fun D σ H => tv σ H fun z H1 => to σ H1 fun x H2 => tl σ H2 fun l H3 => th σ H3 fun h H4 => ∃ p q xs ys a c, x = .ref p ∧ z = .ref q ∧ l = .int a ∧ h = .int c ∧ H4 p = some (.lst xs) ∧ H4 q = some (.lst ys) ∧ p ≠ q ∧
  0 ≤ a ∧ a ≤ c ∧ c ≤ (xs.length : Int) ∧ xs.length + ys.length ≤ sizeLine ∧ D.nx σ (upd H4 p (.lst (xs.take a.toNat ++ ys ++ xs.drop c.toNat)))
theorem ps_setSl {o lo hi e : Expr} {tv to tl th : TE} {p p2 pos : Pos} (he : PE X e tv) (ho : PE X o to) (hl : PE X lo tl) (hh : PE X hi th)
    (hs : swapsWithSole [.Subscript o (.Slice (some lo) (some hi) none p2) p] e pos.line X.env = pure false) (hw : swappedStores [.Subscript o (.Slice (some lo) (some hi) none p2) p] e X.env = pure none := by rfl)
    (h1 : (assignEach [.Subscript o (.Slice (some lo) (some hi) none p2) p] X.env).map (·.2) = [assign (.Subscript o (.Slice (some lo) (some hi) none p2) p) X.env] := by rfl) : PS X (.Assign [.Subscript o (.Slice (some lo) (some hi) none p2) p] e pos) (tSetSl tv to tl th) := by
  refine ⟨fun pins s σ H D I h => ?_⟩
  refine wpAny_Assign_stores (thn (he.run pins s σ H _ I h) fun v s1 ⟨z, H1, I1, r1, q1⟩ => ?_) hs hw
  rw [h1]
  have go : wpAny (model X.prog X.w) X.A (assign (.Subscript o (.Slice (some lo) (some hi) none p2) p) X.env v) (fun _ s' => ∃ σ' H', Inv X pins σ' H' s' ∧ D.nx σ' H') X.xe s1 := by
    refine wpAny_bind (wpAny_holding (thn (ho.run pins s1 σ H1 _ I1 q1) fun ov s2 ⟨x, H2, I2, r2, q2⟩ => ?_))
    refine wpAny_bind (wpAny_holding (wpAny_Slice (thn (hl.run pins s2 σ H2 _ I2 q2) fun vl s3 ⟨l, H3, I3, r3, q3⟩ => thn (hh.run pins s3 σ H3 _ I3 q3) fun vu s4 ⟨u, H4, I4, r4, q4⟩ => ?_)))
    refine wpAny_evalPart_none ?_
    obtain ⟨pa, qa, xs, ys, a, c, rfl, rfl, rfl, rfl, hp, hq, hne, h0, hac, hc, hz, hD⟩ := q4
    cases r2
    cases r1
    have I5 : Inv X pins σ H4 { s4 with heap := s4.heap.push { cls := .type "slice", data := .fields #[vl, vu, .none] } } := I4.kept (t' := s4.toks) fun b ob q => Heap.get?_push_of_some _ q
    refine wpAny_bind (wpAny_standAt (wpAny_bind (wpAny_holding (set_slice I5 hp hq hne (Heap.IsSliceOf.new ..) r3 r4 h0 hac hc hz fun s6 I6 => ?_))))
    exact wpAny_release ⟨σ, _, I6, hD⟩
  exact thn go fun _ s2 q => q
theorem simS_setSl {tv to tl th : TE} {fv fo fl fh : EF} (hv : Sim R (VR R) W tv fv) (ho : Sim R (VR R) W to fo) (hl : Sim R (VR R) W tl fl) (hh : Sim R (VR R) W th fh) : SimS R W (tSetSl tv to tl th) (sSetSl fv fo fl fh) := fun D σ ℓ H ι A L M q =>
  hv σ ℓ H ι A _ L M (ThenS.ofE L q fun a A1 ι1 H1 x U1 M1 r1 L1 q1 => ho σ ℓ H1 ι1 A1 _ L1 M1 (ThenS.ofE L1 q1 fun b A2 ι2 H2 y U2 M2 r2 L2' q2 => hl σ ℓ H2 ι2 A2 _ L2' M2 (ThenS.ofE L2' q2 fun c A3 ι3 H3 z U3 M3 r3 L3 q3 => hh σ ℓ H3 ι3 A3 _ L3 M3 (ThenS.ofE L3 q3 fun d A4 ι4 H4 w U4 M4 r4 L4 q4 => by
    have ra := ((r1.up U2).up U3).up U4
    have rb := (r2.up U3).up U4
    have rc := r3.up U4
    split at q4
    · rename_i A' e
      unfold opSetSl at e
      split at e
      · rename_i n m i j
        split at e
        · rename_i xs ys e1 e2
          split at e
          · rename_i hc
            obtain ⟨hne, h0, hij, hj, hz⟩ := hc
            cases e
            obtain ⟨p, hp, rfl⟩ := vr_ref rb
            obtain ⟨p2, hp2, rfl⟩ := vr_ref ra
            obtain ⟨vs, k1, k2⟩ := lst_rd M4 e1 hp
            obtain ⟨us, l1, l2⟩ := lst_rd M4 e2 hp2
            have hpp : p ≠ p2 := fun z => by
              subst z
              exact hne ((List.getElem?_inj (List.getElem?_eq_some_iff.mp hp).1 M4.nd).mp (hp.trans hp2.symm))
            have hU : Up R ι4 ι4 H4 (upd H4 p (.lst (vs.take i.toNat ++ us ++ vs.drop j.toNat))) := Up.upd k1 True.intro (List.mem_of_getElem? hp)
            obtain ⟨U5, M5⟩ := M4.set (w := .lst (xs.take i.toNat ++ ys ++ xs.drop j.toNat)) (o := .lst (vs.take i.toNat ++ us ++ vs.drop j.toNat)) (lst_at e1) hp ⟨_, upd_same, (((k2.take _).append l2).append (k2.drop _)).up hU⟩
            exact ⟨p, p2, vs, us, i, j, rfl, rfl, vr_int rc, vr_int r4, k1, l1, hpp, h0, hij, by rw [← k2.length]; exact hj, by rw [← k2.length, ← l2.length]; exact hz, q4 ι4 _ σ U5 M5 (L4.up U5)⟩
          · cases e
        · cases e
      · cases e
    · exact False.elim q4))))
/-! ### a class in a value, called -/
def tMakeV (R : Rc) (X : Cx) (W : WX) (tf : TE) (t : TA) : TE := fun σ H Q => tf σ H fun v H1 => ∃ (C f : Addr) (g : GF) (k : Nat), KFacts R X C f g k ∧ v = .ref C ∧ tMakeT C (SpG R g) W t σ H1 Q
theorem pe_makeV {x : Str} {p pos : Pos} {tf : TE} {e : Expr} {es : List Expr} {t : TA} (hf : PE X (.Name x p) tf) (tk : Takes X W) (ha : PA X (e :: es) t)
    (he : starEach (e :: es) X.env = (false, eval e X.env) :: starEach es X.env) (hpl : (backTo pos (starEach es X.env)).any (·.1) = false) : PE X (.Call (.Name x p) (e :: es) [] pos) (tMakeV R X W tf t) := by
  refine ⟨fun pins s σ H Q I h => ?_⟩
  refine wpAny_Call_Name_kw (thn (hf.run pins s σ H _ I h) fun u s1 ⟨v, H1, I1, r1, C, f, g, k, KF, ev, q⟩ => ?_)
  subst ev
  obtain rfl : u = Value.ref C := r1
  refine PySem.W.callWith_K (h₀ := X.base) I1.ok.mod.kin KF.M.kp (thn (ha.run pos pins s1 σ H1 _ I1 q) fun us s2 ⟨vs, H2, I2, r, q2⟩ => ⟨I2.kIn, ?_⟩) he hpl
  exact run_makeSD (E := fun σ c d H' => W c d σ H') KF.M KF.F KF.hr (passAt tk σ) I2 r q2
def MkOk (R : Rc) (X : Cx) (tb : Str → Option GF) : Prop := ∀ c g, tb c = some g → ∃ C f k, R.cl c = some C ∧ KFacts R X C f g k
theorem sim_makeV {tf : TE} {fc : EF} {t : TA} {fa : AF} {tb : Str → Option GF} (hT : MkOk R X tb) (hf : Sim R (VR R) W tf fc) (ha : Sim R (VRs R) W t fa) : Sim R (VR R) W (tMakeV R X W tf t) (eMakeV tb fc fa) := fun σ ℓ H ι A Q L M q =>
  hf σ ℓ H ι A _ L M (q.bind fun v A1 ι1 H1 x U1 M1 v1 q1 => by
    cases v with
    | cls c =>
      simp only at q1
      split at q1
      · rename_i g eg
        obtain ⟨C, f, k, hC, KF⟩ := hT c g eg
        unfold VR at v1
        obtain ⟨C', h1, h2, rfl⟩ := v1
        have : C' = C := by rw [hC] at h1; exact (Option.some.inj h1).symm
        subst this
        exact ⟨C', f, g, k, KF, rfl, sim_make hC ha σ ℓ H1 ι1 A1 Q (L.up U1) M1 q1⟩
      · exact False.elim q1
    | _ => exact False.elim q1)
/-! ### classmethods -/
structure CmFacts (R : Rc) (X : Cx) (m : Str) (C : Addr) (g : GF) (k : Nat) : Prop where
  ex : ∃ (mc : Value) (p f : Addr), ClX.CRead X.K C mc ∧ ClX.CMet X.K C mc m p f ∧ FnR X.prog X.w X.K X.mg X.base (L2.CX X.prog X.w) k f (SpG R g)
  hr : Room k X.A
theorem run_fnCS {k : Nat} {f : Addr} {sp : Sp} {E : L2.St → XK} {CX : CXT} {pins : List (Addr × Obj)} {σ : L2.St} {H : Hp} {s : Shared} {Q : VK} {us : List Value} {vs : List V} (F : FnR X.prog X.w X.K X.mg X.base CX k f sp) (hr : Room k X.A) (hx : PassesAt CX X σ (E σ))
    (I : Inv X pins σ H s) (r : Vals vs us) (h : sp vs H Q (E σ)) : codeAny (model X.prog X.w) X.A (.call (.ref f) ⟨us, []⟩) (fun r s' => match r with | .ok (.ret v) => EP X pins σ Q v s' | .ok _ => False | .error e => X.xe e s') s := by
  refine codeAny_mono (F.go hr I.env0 r h) fun r s' hq => ?_
  cases r with
  | error e => exact hx pins H s e s' I hq
  | ok fl =>
    cases fl with
    | ret u => exact I.after hq
    | next => exact False.elim hq
    | brk => exact False.elim hq
    | cont => exact False.elim hq
def tCM (R : Rc) (X : Cx) (W : WX) (m : Str) (ta : TE) (t : TA) : TE := fun σ H Q => ta σ H fun x H1 => ∃ (C : Addr) (g : GF) (k : Nat), CmFacts R X m C g k ∧ x = .ref C ∧ t σ H1 fun vs H2 => SpG R g (.ref C :: vs) H2 Q (fun c d H' => W c d σ H')
theorem pe_cm {o e : Expr} {es : List Expr} {ta : TE} {t : TA} {m : Str} {apos pos : Pos} {pl : Sem Bool} (he : PE X o ta) (tk : Takes X W) (ha : PA X (e :: es) t)
    (hst : starEach (e :: es) X.env = (false, eval e X.env) :: starEach es X.env) (hpl : (backTo pos (starEach es X.env)).any (·.1) = false)
    (ht : eval (.Call (.Attribute o m apos) (e :: es) [] pos) X.env = (do
      let ov ← eval o X.env
      standAt apos.atName
      let (f, first) ← holding [ov] (getMethod ov m pl)
      callWith pos f first (backTo pos (starEach (e :: es) X.env)) (backToKw pos (keywordEach [] X.env)))) :
    PE X (.Call (.Attribute o m apos) (e :: es) [] pos) (tCM R X W m ta t) := by
  refine ⟨fun pins s σ H Q I h => ?_⟩
  refine PySem.W.methodCall_KW (pl := pl) (thn (he.run pins s σ H _ I h) fun u s1 ⟨x, H1, I1, rx, C, g, k, ⟨⟨mc, p, f, r, c, F⟩, hr⟩, ex, q⟩ => ?_) ht
  subst ex
  obtain rfl : u = Value.ref C := rx
  refine ClX.getmethcm_ok I1 r c fun s2 I2 => ?_
  refine ClX.callwith_cm I2 (ClX.base_none I1 (Nat.le_refl _)) c.fi (thn (ha.run pos _ s2 σ H1 _ I2 q) fun us s3 ⟨vs, H2, I3, rv, q2⟩ => ⟨⟨ClX.pin_at I3, I3.kIn⟩, ?_⟩) hst hpl
  refine thn (Q := EP X ((s1.heap.objs.size, PySem.W.methodObj (.ref f) (.ref C)) :: pins) σ Q) (wpAny_call (PySem.W.method_call (ClX.pin_at I3) (run_fnCS (E := fun σ c d H' => W c d σ H') (us := .ref C :: us) (vs := .ref C :: vs) F hr (passAt tk σ) I3 (.cons rfl rv) q2))) fun _ _ y => ClX.unpinE y
def CmOk (R : Rc) (X : Cx) (tb : Str → Option GF) (m : Str) : Prop := ∀ c g, tb c = some g → ∃ C k, R.cl c = some C ∧ CmFacts R X m C g k
theorem sim_cm {ta : TE} {fo : EF} {t : TA} {fa : AF} {tb : Str → Option GF} {m : Str} (hT : CmOk R X tb m) (ho : Sim R (VR R) W ta fo) (ha : Sim R (VRs R) W t fa) : Sim R (VR R) W (tCM R X W m ta t) (eCMeth tb fo fa) := fun σ ℓ H ι A Q L M q =>
  ho σ ℓ H ι A _ L M (q.bind fun v A1 ι1 H1 x U1 M1 v1 q1 => by
    cases v with
    | cls c =>
      simp only at q1
      split at q1
      · rename_i g eg
        obtain ⟨C, k, hC, CF⟩ := hT c g eg
        have v1' := v1
        unfold VR at v1
        obtain ⟨C', h1, h2, rfl⟩ := v1
        have : C' = C := by rw [hC] at h1; exact (Option.some.inj h1).symm
        subst this
        refine ⟨C', g, k, CF, rfl, ?_⟩
        exact ha σ ℓ H1 ι1 A1 _ (L.up U1) M1 (q1.bind fun as A2 ι2 H2 xs U2 M2 v2 q2 => ⟨ι2, A2, .cls c :: as, M2, by unfold VRs; exact ⟨.ref C', xs, rfl, v1'.up U2, v2⟩, q2⟩)
      · exact False.elim q1
    | _ => exact False.elim q1)
end
end Sh

set_option Elab.async false
set_option linter.all false
set_option maxRecDepth 100000
set_option maxHeartbeats 4000000
/-! list(o), the class's __iter__ returning iter(self.F), with an own __len__ -/
namespace Sh
open PySem PySem.W L2 PyProof.Rows
/-- what such an __iter__ promises -/
def spIt (K : PySem.W.Frag) (F : Str) : Sp := fun vs H Q _ => ∃ a C dx fs l zs, vs = [.ref a] ∧ H a = some (.ins C dx fs) ∧ Cls K C ∧ NoAttr K C F ∧ fs.lookup F = some (.ref l) ∧ SqL K H l zs ∧ ∀ it, H it = none → (∀ b, H b ≠ none → b < it) → Q (.ref it) (upd H it (ItO l it 0))
def rIterY (K : PySem.W.Frag) : List V → Hp → VK → Prop := fun xs H Q => ∃ (l : Addr) (zs : List V), xs = [.ref l] ∧ SqL K H l zs ∧ ∀ it, H it = none → (∀ b, H b ≠ none → b < it) → Q (.ref it) (upd H it (ItO l it 0))
section
variable {X : Cx} {pins : List (Addr × Obj)} {σ : L2.St} {H : Hp} {s : Shared}
theorem tracked_lt (I : Inv X pins σ H s) {b : Addr} (h : H b ≠ none) : b < s.heap.objs.size := by
  by_cases hb : b < s.heap.objs.size
  · exact hb
  · exact absurd (I.hok.fresh (Nat.le_of_not_lt hb)) h
theorem call_iterY : CallR X (.builtin "iter") (rIterY X.K) := by
  intro pins s σ H xs us Q I r h
  obtain ⟨l, zs, rfl, hq, q⟩ := h
  obtain ⟨u, rfl, ru⟩ := vals1 r
  cases ru
  obtain ⟨its, rv, pl, hz⟩ := I.list hq
  refine GNX.call_iter pl.isList ?_
  exact ⟨.ref s.heap.objs.size, _, I.laid (t' := s.toks) (fun b u e => Heap.get?_push_of_some _ e) (Nat.le_refl _) (itO_ok (Heap.get?_push_size _ rfl)), rfl, q _ (I.hok.fresh (Nat.le_refl _)) fun b hb => tracked_lt I hb⟩
/-! ### the loop -/
variable {prog : Program} {w : World} {A : Around} {E : Value → Shared → Prop} {it l q : Addr} {i : Nat}
theorem li_next {items : Array Value} {x : Value} {Q : Option Value → Shared → Prop} (hx : s.heap.get? it = some (GNX.itObj l i)) (hl : s.heap.IsList l items) (hi : items[i]? = some x)
    (h : ∀ h', h'.get? it = some (GNX.itObj l (i + 1)) → Heap.SameBut it s.heap h' → Q (some x) { s with heap := h' }) : wpAny (model prog w) A (pyNext (.ref it)) Q E s := by
  have hT : s.TypeIs (.ref it) "list_iterator" := ⟨_, hx, rfl⟩
  unfold pyNext
  refine wpAny_bind (wpAny_attempt (wpAny_callSpecial?_slot (name := Str.ofString "__next__") hT slot_listiter_next (wpAny_call_entry slot_listiter_next hT entry_listiter_next ?_ (args_listiter_next _))))
  refine wpAny_mono (GNX.next_item (Q := fun v s' => Q (some v) s') hx hl hi h) (fun fin s' hq => ?_) fun _ _ z => z
  obtain ⟨v, e, q⟩ := hq
  exact ⟨v, e, wpAny_pure q⟩
/-- the list that is filled -/
abbrev HI (H : Hp) (q : Addr) (zs : List V) (i : Nat) : Hp := upd H q (.lst (zs.take i))
theorem li_loop {A1 : Around} {Rs : Result → Shared → Prop} {H : Hp} {zs : List V} (hh : A1.handled = none) (hH : SqL X.K H l zs) (hn : l ≠ q) (hf : ∀ i, FpOk X pins (HI H q zs i) it) (hz : zs.length ≤ sizeLine)
    (hdone : ∀ s', Inv X pins σ (upd H q (.lst zs)) s' → Rs (.ok (.ret .none)) s') : ∀ (m i : Nat) (s : Shared), i + m = zs.length → Inv X pins σ (HI H q zs i) s → s.heap.get? it = some (GNX.itObj l i) →
    codeAny (model X.prog X.w) A1 (.builtin "list.extend.loop" ⟨[.ref q, .ref it, .none], []⟩) Rs s
  | m, i, s, him, I, hit => by
    refine codeAny_builtin PySem.F.entry_extend_loop ?_
    rw [Around.under_plainId PySem.F.plain_extend_loop _]
    show wpAny _ A1.in1 (pyNext (.ref it) >>= _) _ _ s
    have hL : SqL X.K (HI H q zs i) l zs := by
      rcases hH with h | h
      · exact .inl (by rcases h with h | ⟨ob, h⟩; exact .inl (by show upd H q _ l = _; rw [upd_ne hn]; exact h); exact .inr ⟨ob, by show upd H q _ l = _; rw [upd_ne hn]; exact h⟩)
      · exact .inr h
    obtain ⟨its, rv, pl, hzz⟩ := I.list hL
    have hne : q ≠ it := fun e => by
      have h1 : HI H q zs i it = none := (hf i).1
      rw [← e] at h1
      have h2 : HI H q zs i q = some _ := upd_same
      rw [h2] at h1
      cases h1
    cases m with
    | zero =>
      have hi : i = zs.length := by omega
      subst hi
      refine wpAny_bind (wpAny_pyNext_list_end (A := A1.in1) hh ⟨_, hit, rfl, rfl⟩ pl.isList (by rw [List.getElem?_toArray]; exact rv.none_of (by simp)) fun h' e => ?_)
      have I2 : Inv X pins σ (HI H q zs zs.length) { s with heap := h' } := by
        refine Inv.turnedL (t' := s.toks) (ch := [it]) I (fun b o nb z => e b o (by simpa using nb) z) fun b hb => ?_
        rw [List.mem_singleton] at hb
        subst hb
        exact hf _
      refine wpAny_pure (hdone _ ?_)
      have e2 : HI H q zs zs.length = upd H q (.lst zs) := by show upd H q (.lst (zs.take zs.length)) = _; rw [List.take_length]
      rw [e2] at I2
      exact I2
    | succ m =>
      have hi : i < zs.length := by omega
      obtain ⟨w', hw, rw'⟩ := rv.get (List.getElem?_eq_getElem hi)
      refine wpAny_bind (li_next hit pl.isList (by rw [List.getElem?_toArray]; exact hw) fun h' e' sb => ?_)
      have I2 : Inv X pins σ (HI H q zs i) { s with heap := h' } := by
        refine Inv.turnedL (t' := s.toks) (ch := [it]) I (fun b o nb z => (sb.2 b (by simpa using nb)).trans z) fun b hb => ?_
        rw [List.mem_singleton] at hb
        subst hb
        exact hf _
      show wpAny _ A1.in1 (updateSeq q (·.push w') >>= _) _ _ _
      obtain ⟨z, its2, k, r2, hl2, e2⟩ := I2.lstM (upd_same (H := H) (a := q))
      have hlen : its2.length = i := by rw [← r2.length, List.length_take]; omega
      refine wpAny_bind (wpAny_updateSeq e2 rfl (wpAny_pure ⟨plainId_quiet PySem.F.plain_extend_loop _, ?_⟩) (by rw [List.size_toArray]; omega) (by show (its2.toArray.push w').size ≤ sizeLine + 1; rw [Array.size_push, List.size_toArray]; omega))
      have I3 := I2.lset (f := (·.push w')) (its' := its2 ++ [w']) (t' := s.toks) upd_same e2 (by simp) (r2.append (.cons rw' .nil)) (by rw [List.length_append, List.length_singleton, List.length_take]; omega)
      have eH : upd (HI H q zs i) q (.lst (zs.take i ++ [zs[i]])) = HI H q zs (i + 1) := by
        show upd (upd H q _) q _ = upd H q _
        rw [upd_upd, List.take_append_getElem hi]
      rw [eH] at I3
      refine li_loop hh hH hn hf hz hdone m (i + 1) _ (by omega) I3 ?_
      show (h'.update q (Obj.mapSeq fun x => x.push w')).get? it = some (GNX.itObj l (i + 1))
      rw [Heap.get?_update_other _ _ hne]
      exact e'
/-! ### the own __len__ -/
variable {R : Rc}
theorem own_lenN {A1 : Around} {C f a dx : Addr} {fs : List (Str × V)} {g : GF} {k : Nat} {Q : VK} {E : Value → Shared → Prop} (hm : Meth X.K C "__len__" f) (F : FnR X.prog X.w X.K X.mg X.base (L2.CX X.prog X.w) k f (SpG R g)) (hr : Room (k + 1) A1) (hfr : A1.frames = X.A.frames)
    (I : Inv X pins σ H s) (ha : H a = some (.ins C dx fs)) (q : SpG R g [.ref a] H (fun v H' => (∃ n : Nat, v = .int n ∧ n ≤ sizeLine) ∧ Q v H') fun _ _ _ => False) :
    wpAny (model X.prog X.w) A1 (call (.builtin "len") [.ref a]) (fun u s' => ∃ (n : Nat) (t : Nat) (v : V) (H' : Hp), u = .int n t ∧ n ≤ sizeLine ∧ Inv X pins σ H' s' ∧ Q v H') E s := by
  obtain ⟨ox, od, J⟩ := ins_J I ha
  obtain ⟨m, hF⟩ := I.fr
  refine PySem.W.len_K hF I.ok.mod.kin J hm.at_ hm.fn ?_
  have e0 : Env0 X.prog X.w X.K X.mg X.base A1.in1 X.stack s H := by
    have e := I.env0
    exact ⟨by show A1.frames = _; rw [hfr]; exact e.frames, e.mod, e.bs, e.bsz, e.funs, e.frf, e.hok, e.bare⟩
  refine wpAny_mono (Q := EP X pins σ fun v H' => (∃ n : Nat, v = .int n ∧ n ≤ sizeLine) ∧ Q v H') (E := E) (wpAny_call (codeAny_mono (F.go (us := [.ref a]) (vs := [.ref a]) hr.in1 e0 (.cons rfl .nil) q) fun r s' hq => ?_)) (fun w s' ⟨v, H', I', rv, ⟨⟨n, e, hn⟩, q'⟩⟩ => ?_) fun _ _ z => z
  · cases r with
    | error e =>
      obtain ⟨_, _, _, _, _, _, _, _, _, _, _, _, z⟩ := hq
      exact False.elim z
    | ok fl =>
      cases fl with
      | ret u => exact I.after hq
      | next => exact False.elim hq
      | brk => exact False.elim hq
      | cont => exact False.elim hq
  · subst e
    obtain ⟨t, rfl⟩ := rv
    have hs : sizeLine = 16777216 := sizeLine_eq
    exact ⟨⟨by omega, by omega⟩, n, _, .int n, H', rfl, hn, I'.tok _, q'⟩
theorem li_hint {A1 : Around} {C f a dx : Addr} {fs : List (Str × V)} {g : GF} {k : Nat} {Q : VK} {Qb : Bool → Shared → Prop} {E : Value → Shared → Prop} (hm : Meth X.K C "__len__" f) (F : FnR X.prog X.w X.K X.mg X.base (L2.CX X.prog X.w) k f (SpG R g)) (hr : Room (k + 1) A1) (hfr : A1.frames = X.A.frames)
    (I : Inv X pins σ H s) (ha : H a = some (.ins C dx fs)) (q : SpG R g [.ref a] H (fun v H' => (∃ n : Nat, v = .int n ∧ n ≤ sizeLine) ∧ Q v H') fun _ _ _ => False)
    (h : ∀ b v H' s', Inv X pins σ H' s' → Q v H' → Qb b s') : wpAny (model X.prog X.w) A1 (Builtin.List.listLengthHint (.ref a)) Qb E s := by
  obtain ⟨ox, od, J⟩ := ins_J I ha
  unfold Builtin.List.listLengthHint
  refine wpAny_bind (wpAny_bind (J.type.here ((PySem.W.looks_findIn I.kIn hm.at_).here ?_)))
  refine PySem.W.KFB.if_not rfl ?_
  refine wpAny_bind (wpAny_rule ?_)
  refine wpAny_bind (wpAny_attempt (wpAny_mono (own_lenN (E := fun _ _ => False) hm F hr hfr I ha q) (fun u s' ⟨n, t, v, H', e, hn, I', q'⟩ => ?_) fun _ _ z => False.elim z))
  subst e
  show wpAny _ _ (asInt? (.int n t) >>= _) _ _ _
  refine wpAny_bind (wpAny_pure ?_)
  have hl : Builtin.List.listTooLong ((n : Int)).toNat = false := by
    unfold Builtin.List.listTooLong
    simp only [Int.toNat_natCast, gt_iff_lt, decide_eq_false_iff_not]
    omega
  simp only [hl]
  exact wpAny_pure (h _ v H' s' I' q')
/-- what is asked of list(o) -/
structure ItM (X : Cx) (C : Addr) (F : Str) (fi : Addr) (ki : Nat) : Prop where
  m : Meth X.K C "__iter__" fi
  c : Cls X.K C
  n : NoAttr X.K C F
  F : FnR X.prog X.w X.K X.mg X.base (L2.CX X.prog X.w) ki fi (spIt X.K F)
  r : Room (ki + 4) X.A
def rListIt (R : Rc) (X : Cx) : List V → Hp → VK → Prop := fun vs H Q => ∃ (a C dx : Addr) (fs : List (Str × V)) (F : Str) (fi : Addr) (ki : Nat) (l : Addr) (fl : Addr) (g : GF) (kl : Nat),
  vs = [.ref a] ∧ H a = some (.ins C dx fs) ∧ ItM X C F fi ki ∧ Meth X.K C "__len__" fl ∧ FnR X.prog X.w X.K X.mg X.base (L2.CX X.prog X.w) kl fl (SpG R g) ∧ Room (kl + 4) X.A ∧ fs.lookup F = some (.ref l) ∧ (∃ zs0, SqL X.K H l zs0) ∧
  ∀ q it, H q = none → H it = none → q ≠ it → SpG R g [.ref a] (upd (upd H q (.lst [])) it (ItO l it 0)) (fun v H' => (∃ n : Nat, v = .int n ∧ n ≤ sizeLine) ∧
    ∃ zs, SqL X.K (ItX.dropH H' it) l zs ∧ zs.length ≤ sizeLine ∧ l ≠ q ∧ H' q = some (.lst []) ∧ H' it = some (ItO l it 0) ∧ Q (.ref q) (upd (ItX.dropH H' it) q (.lst zs))) fun _ _ _ => False
theorem fp_upd {it : Addr} {o : HO} (hq : q ≠ it) (h : FpOk X pins H it) : FpOk X pins (upd H q o) it := ⟨by rw [upd_ne (Ne.symm hq)]; exact h.1, h.2⟩
theorem li_extend {A1 : Around} {Rs : Result → Shared → Prop} {C dx a fi fl : Addr} {fs : List (Str × V)} {F : Str} {g : GF} {ki kl : Nat} {Q : VK} (hfr : A1.frames = X.A.frames) (hri : Room ki A1.in1) (hrl : Room (kl + 1) A1.in1) (hh : A1.handled = none)
    (T : Meth X.K C "__iter__" fi) (Tc : Cls X.K C) (Tn : NoAttr X.K C F) (FI : FnR X.prog X.w X.K X.mg X.base (L2.CX X.prog X.w) ki fi (spIt X.K F)) (L : Meth X.K C "__len__" fl) (FL : FnR X.prog X.w X.K X.mg X.base (L2.CX X.prog X.w) kl fl (SpG R g))
    (I : Inv X pins σ (upd H q (.lst [])) s) (hyoung : X.s_0.heap.objs.size ≤ q) (hqn : H q = none) (ha : H a = some (.ins C dx fs)) (hl : fs.lookup F = some (.ref l)) (hs : ∃ zs0, SqL X.K H l zs0)
    (h : ∀ it, H it = none → q ≠ it → SpG R g [.ref a] (upd (upd H q (.lst [])) it (ItO l it 0)) (fun v H' => (∃ n : Nat, v = .int n ∧ n ≤ sizeLine) ∧
      ∃ zs, SqL X.K (ItX.dropH H' it) l zs ∧ zs.length ≤ sizeLine ∧ l ≠ q ∧ H' q = some (.lst []) ∧ H' it = some (ItO l it 0) ∧ Q (.ref q) (upd (ItX.dropH H' it) q (.lst zs))) fun _ _ _ => False)
    (hdone : ∀ H' s', Inv X pins σ H' s' → Q (.ref q) H' → Rs (.ok (.ret .none)) s') :
    wpAny (model X.prog X.w) A1.in1 (Builtin.List.listExtendWith (.ref q) (.ref a) .none)
      (fun fin s' => match fin with | .done f => Rs (.ok f) s' | .again c' => c'.quiet = true ∧ codeAny (model X.prog X.w) A1 c' Rs s') (fun e s' => Rs (.error e) s') s := by
  have hne : q ≠ a := fun e => by rw [← e, hqn] at ha; cases ha
  have ha1 : upd H q (.lst []) a = some (.ins C dx fs) := by rw [upd_ne (Ne.symm hne)]; exact ha
  obtain ⟨ox, od, J⟩ := ins_J I ha1
  obtain ⟨m0, hF⟩ := I.fr
  unfold Builtin.List.listExtendWith
  refine wpAny_bind (J.type.here ?_)
  have h1 : Builtin.List.listSameRef (.ref q) (.ref a) = false := by simp [Builtin.List.listSameRef, hne]
  have h2 : (Value.ref C == Value.type "list") = false := rfl
  have h3 : (Value.ref C == Value.type "tuple") = false := rfl
  simp only [h1, h2, h3, Bool.or_false, Bool.false_eq_true, if_false]
  refine wpAny_bind (PySem.W.owit_iter hF I.ok.mod.kin J T.at_ T.fn ?_)
  have e0 : Env0 X.prog X.w X.K X.mg X.base A1.in1 X.stack s (upd H q (.lst [])) := by
    have e := I.env0
    exact ⟨by show A1.frames = _; rw [hfr]; exact e.frames, e.mod, e.bs, e.bsz, e.funs, e.frf, e.hok, e.bare⟩
  obtain ⟨zs0, hs0⟩ := hs
  have hs1 : SqL X.K (upd H q (.lst [])) l zs0 := SqL.new hqn hs0
  have sp : spIt X.K F [.ref a] (upd H q (.lst [])) (fun v H' => ∃ it, v = .ref it ∧ H it = none ∧ q < it ∧ H' = upd (upd H q (.lst [])) it (ItO l it 0)) (fun _ _ _ => False) :=
    ⟨a, C, dx, fs, l, zs0, rfl, ha1, Tc, Tn, hl, hs1, fun it hit hlt => by
      have hq : q < it := hlt q (by rw [upd_same]; exact fun z => nomatch z)
      refine ⟨it, rfl, ?_, hq, rfl⟩
      rw [upd_ne (Nat.ne_of_gt hq)] at hit
      exact hit⟩
  refine wpAny_call (codeAny_mono (FI.go (us := [.ref a]) (vs := [.ref a]) hri e0 (.cons rfl .nil) sp) fun r s' hq' => ?_)
  cases r with
  | error e =>
    obtain ⟨_, _, _, _, _, _, _, _, _, _, _, _, z⟩ := hq'
    exact False.elim z
  | ok fl' =>
    cases fl' with
    | next => exact False.elim hq'
    | brk => exact False.elim hq'
    | cont => exact False.elim hq'
    | ret u =>
      obtain ⟨v, H', I', rv, it, ev, hit, hqit, eH⟩ := I.after hq'
      subst ev
      subst eH
      cases rv
      have hitn : (upd H q (.lst [])) it = none := by rw [upd_ne (Nat.ne_of_gt hqit)]; exact hit
      have hitO : upd (upd H q (.lst [])) it (ItO l it 0) it = some (ItO l it 0) := upd_same
      have hobj := itO_get I' hitO
      have hT : s'.TypeIs (.ref it) "list_iterator" := ⟨_, hobj, rfl⟩
      unfold PySem.W.OwitIt
      refine wpAny_specialOf (name := Str.ofString "__next__") hT slot_listiter_next.lookup ?_
      have ha2 : upd (upd H q (.lst [])) it (ItO l it 0) a = some (.ins C dx fs) := by
        rw [upd_ne (fun z => by rw [z, hit] at ha; cases ha)]
        exact ha1
      refine wpAny_bind (wpAny_holding (li_hint L FL hrl hfr I' ha2 (h it hit (Nat.ne_of_lt hqit)) fun b v H2 s2 I2 ⟨zs, hz1, hz2, hlq, hq2, hit2, hQ⟩ => ?_))
      have I3 := ItX.inv_drop I2 hit2
      have fp0 : FpOk X pins (ItX.dropH H2 it) it := ItX.inv_fp I2 hit2 (Nat.le_of_lt (Nat.lt_of_le_of_lt hyoung hqit))
      have hq3 : ItX.dropH H2 it q = some (.lst []) := by rw [ItX.dropH_ne (Nat.ne_of_lt hqit)]; exact hq2
      have eH0 : upd (ItX.dropH H2 it) q (.lst []) = ItX.dropH H2 it := by
        funext b
        by_cases hb : b = q
        · rw [hb, upd_same, hq3]
        · rw [upd_ne hb]
      have go : ∀ s3, Inv X pins σ (ItX.dropH H2 it) s3 → s3.heap.get? it = some (GNX.itObj l 0) → codeAny (model X.prog X.w) A1 (.builtin "list.extend.loop" ⟨[.ref q, .ref it, .none], []⟩) Rs s3 := fun s3 I3 ho => by
        refine li_loop hh hz1 hlq (fun i => fp_upd (Nat.ne_of_lt hqit) fp0) hz2 (fun s4 I4 => hdone _ s4 I4 hQ) zs.length 0 s3 (by omega) ?_ ho
        have : HI (ItX.dropH H2 it) q zs 0 = ItX.dropH H2 it := by show upd _ q (.lst (zs.take 0)) = _; rw [List.take_zero]; exact eH0
        rw [this]
        exact I3
      have hobj2 := itO_get I2 hit2
      refine wpAny_ite_split (fun _ => ?_) (fun _ => wpAny_pure ⟨plainId_quiet PySem.F.plain_extend_loop _, go _ I3 hobj2⟩)
      obtain ⟨z, its, k, r3, hl3, e3⟩ := I3.lstM hq3
      cases r3
      refine wpAny_bind (wpAny_rule ?_)
      refine wpAny_bind ?_
      show wpAny _ _ (updateSeq q (·.push .none) >>= fun _ => updateSeq q (·.pop)) _ _ _
      refine wpAny_bind (wpAny_updateSeq e3 rfl ?_)
      have I4 := I3.lset (f := (·.push Value.none)) (its' := [Value.none]) (ys := [.non]) (t' := s2.toks) hq3 e3 (by simp) (.cons rfl .nil) (by rw [List.length_singleton, sizeLine_eq]; decide)
      obtain ⟨z4, its4, k4, r4, hl4, e4⟩ := I4.lstM upd_same
      obtain ⟨u4, rfl, ru4⟩ := r4.one
      refine wpAny_updateSeq e4 rfl ?_ (by show 1 ≤ sizeLine; rw [sizeLine_eq]; decide) (by show 0 ≤ sizeLine + 1; exact Nat.zero_le _)
      have I5 := I4.lset (f := (·.pop)) (its := [u4]) (its' := []) (ys := []) (t' := s2.toks) upd_same e4 (by rfl) .nil (Nat.zero_le _)
      rw [upd_upd, eH0] at I5
      refine wpAny_pure ⟨plainId_quiet PySem.F.plain_extend_loop _, go _ I5 ?_⟩
      show ((s2.heap.update q _).update q _).get? it = _
      rw [Heap.get?_update_other _ _ (Nat.ne_of_lt hqit), Heap.get?_update_other _ _ (Nat.ne_of_lt hqit)]
      exact hobj2
theorem call_listIt : CallR X (.type "list") (rListIt R X) := by
  intro pins s σ H xs us Q I rv h
  obtain ⟨a, C, dx, fs, F, fi, ki, l, fl, g, kl, rfl, ha, ⟨T, Tc, Tn, FI, ri⟩, L, FL, rl, hl, hs, hq⟩ := h
  obtain ⟨u, rfl, ru⟩ := rv.one
  cases ru
  refine callType_codes (Q₁ := fun obj s₁ => obj = .ref s.heap.objs.size ∧ s₁ = { s with heap := s.heap.push { cls := .type "list", data := .seq #[] } }) PySem.F.called_list (PySem.F.typeCall_list_1 _) PySem.F.entry_list_init
    (code_list_new _ ⟨rfl, rfl⟩) fun obj s₁ h₁ => ?_
  obtain ⟨rfl, rfl⟩ := h₁
  have hS : (s.heap.push { cls := .type "list", data := .seq #[] }).get? s.heap.objs.size = some { cls := .type "list", data := .seq #[] } := Heap.get?_push_size _ rfl
  refine ⟨⟨_, hS, rfl⟩, PySem.F.args_list_init_2 _ _, ?_⟩
  have fr : H s.heap.objs.size = none := I.hok.fresh (Nat.le_refl _)
  have I1 : Inv X pins σ (upd H s.heap.objs.size (.lst [])) { s with heap := s.heap.push { cls := .type "list", data := .seq #[] } } := I.lnew (its := []) (t' := s.toks) .nil (Nat.zero_le _)
  show wpAny _ _ (do let old ← Builtin.List.listItems (.ref s.heap.objs.size); Builtin.List.listUpdate (.ref s.heap.objs.size) (fun _ => #[]); letGo old.toList.reverse; Builtin.List.listExtendWith (.ref s.heap.objs.size) (.ref a) .none) _ _ _
  refine wpAny_bind ?_
  unfold Builtin.List.listItems
  refine wpAny_bind (wpAny_seqItems hS rfl (wpAny_pure ?_))
  show wpAny _ _ (updateSeq s.heap.objs.size (fun _ => #[]) >>= fun _ => letGo (#[] : Array Value).toList.reverse >>= fun _ => Builtin.List.listExtendWith (.ref s.heap.objs.size) (.ref a) .none) _ _ _
  refine wpAny_bind (wpAny_updateSeq hS rfl ?_)
  have I2 := I1.lset (f := fun _ => #[]) (its := []) (its' := []) (ys := []) (t' := s.toks) upd_same hS rfl .nil (Nat.zero_le _)
  rw [upd_upd] at I2
  refine wpAny_bind (wpAny_letGo ?_)
  exact li_extend (A1 := X.A.in1) (Rs := wants (fun r s₂ => r = .none ∧ EP X pins σ Q (.ref s.heap.objs.size) s₂) X.xe) rfl (ri.mono (by omega : ki + 2 ≤ ki + 4)).in1.in1 (rl.mono (by omega : kl + 1 + 2 ≤ kl + 4)).in1.in1 ri.hd T Tc Tn FI L FL I2 I.sz fr ha hl hs
    (fun it h1 h2 => hq _ it fr h1 h2) fun H' s' I' hR => ⟨rfl, .ref s.heap.objs.size, H', I', rfl, hR⟩
end
/-! ### in the abstract heap -/
def ownList (itf : Str → Option Str) (tb : Str → Option GF) (as : List AV) (A : AH) : Res AV := match as with
  | [.ref n] => (match A.ins? n with
    | some (c, fs) => (match itf c, tb c with
      | some F, some g => (match fs.lookup F with
        | some (.ref m) => (match A.lst? m, gCall g [.ref n] A with
          | some _, .ok (.int i) A' => (match A'.lst? m with
            | some xs => if 0 ≤ i ∧ i ≤ (sizeLine : Int) ∧ xs.length ≤ sizeLine then .ok (.ref A'.length) (A' ++ [.lst xs]) else .bad
            | none => .bad)
          | _, _ => .bad)
        | _ => .bad)
      | _, _ => .bad)
    | none => .bad)
  | _ => .bad
def ItOk (R : Rc) (X : Cx) (itf : Str → Option Str) (tb : Str → Option GF) : Prop := ∀ c F g, itf c = some F → tb c = some g → ∃ (C fi : Addr) (ki : Nat) (fl : Addr) (kl : Nat), R.cl c = some C ∧ ItM X C F fi ki ∧ Meth X.K C "__len__" fl ∧ FnR X.prog X.w X.K X.mg X.base (L2.CX X.prog X.w) kl fl (SpG R g) ∧ Room (kl + 4) X.A
section
variable {R : Rc} {X : Cx} {W : WX} {ι : List Addr} {H : Hp} {A : AH}
theorem Emb.kp {H' : Hp} (ht : ∀ p xs, SqT R.K H p xs → SqT R.K H' p xs) (hf : ∀ p ob u, H p = some (.frz ob u) → H' p = some (.frz ob u)) (hx : ∀ p fs, H p = some (.xd fs) → H' p = some (.xd fs)) (k : ∀ a ∈ ι, ∀ w, H a = some w → H' a = some w) (M : Emb R ι A H) : Emb R ι A H' :=
  ⟨M.len, M.nd, fun n o a e1 e2 => (M.obj n o a e1 e2).kp ht hf (k a (List.mem_of_getElem? e2)), R.Jkp ht hf hx M.inv⟩
theorem ownList_s {itf : Str → Option Str} {tb : Str → Option GF} (hK : X.K = R.K) (hT : ItOk R X itf tb) : SimC R (rListIt R X) (ownList itf tb) := fun as xs H ι A Q E M r q => by
  unfold ownList at q
  split at q
  · rename_i n
    split at q
    · rename_i c fs e1
      split at q
      · rename_i F g e2 e3
        split at q
        · rename_i m e4
          split at q
          · rename_i xs0 i A' e5 e6
            split at q
            · rename_i ys e7
              split at q
              · rename_i hc
                obtain ⟨hi0, hi1, hlen⟩ := hc
                obtain ⟨C, fi, ki, fl, kl, hC, IM, L, FL, rl⟩ := hT c F g e2 e3
                obtain ⟨x, rfl, r1⟩ := vrs1 r
                obtain ⟨p, hp, rfl⟩ := vr_ref r1
                obtain ⟨C', dx, fs', h1, h2, h3⟩ := ins_rd M e1 hp
                have : C' = C := by rw [hC] at h1; exact (Option.some.inj h1).symm
                subst this
                obtain ⟨y, h4, h5⟩ := h3.look' e4
                obtain ⟨l, hl, rfl⟩ := vr_ref h5
                obtain ⟨vs0, k1, k2⟩ := lst_rd M e5 hl
                refine ⟨p, C', dx, fs', F, fi, ki, l, fl, g, kl, rfl, h2, IM, L, FL, rl, h4, ⟨vs0, .inl (.inl k1)⟩, fun qa it hq hit hne => ?_⟩
                have M1 : Emb R ι A (upd (upd H qa (.lst [])) it (ItO l it 0)) := (M.laid hq).laid (by rw [upd_ne (Ne.symm hne)]; exact hit)
                refine ⟨ι, A, [.ref n], M1, by unfold VRs; exact ⟨.ref p, [], rfl, mk_ref hp, by unfold VRs; rfl⟩, ?_⟩
                rw [e6]
                refine fun ι' H' b U' M' rb => ?_
                have hqt : (upd (upd H qa (.lst [])) it (ItO l it 0)) qa = some (.lst []) := by rw [upd_ne hne]; exact upd_same
                have hitt : (upd (upd H qa (.lst [])) it (ItO l it 0)) it = some (ItO l it 0) := upd_same
                have nqι : qa ∉ ι := M.new hq
                have nitι : it ∉ ι := M.new hit
                have hq' : H' qa = some (.lst []) := U'.oth _ _ hqt nqι
                have hit' : H' it = some (ItO l it 0) := U'.oth _ _ hitt nitι
                obtain ⟨τ, eτ, fτ⟩ := U'.pre
                have nq' : qa ∉ ι' := fun z => by
                  rw [eτ] at z
                  rcases List.mem_append.mp z with z | z
                  · exact nqι z
                  · rw [fτ _ z] at hqt; cases hqt
                have nit' : it ∉ ι' := fun z => by
                  rw [eτ] at z
                  rcases List.mem_append.mp z with z | z
                  · exact nitι z
                  · rw [fτ _ z] at hitt; cases hitt
                obtain ⟨zs, l1, l2⟩ := lst_rd M' e7 (U'.at hl)
                have hlq : l ≠ qa := fun z => by subst z; exact nqι (List.mem_of_getElem? hl)
                have hlit : l ≠ it := fun z => by subst z; exact nitι (List.mem_of_getElem? hl)
                have l1' : ItX.dropH H' it l = some (.lst zs) := by rw [ItX.dropH_ne hlit]; exact l1
                obtain ⟨nn, rfl⟩ := Int.eq_ofNat_of_zero_le hi0
                refine ⟨⟨nn, vr_int rb, by omega⟩, zs, .inl (.inl l1'), by rw [← l2.length]; exact hlen, hlq, hq', hit', ?_⟩
                have other : ∀ b, b ≠ qa → b ≠ it → (upd (ItX.dropH H' it) qa (.lst zs)) b = H' b := fun b h1 h2 => by rw [upd_ne h1, ItX.dropH_ne h2]
                have keep : ∀ b o, H' b = some o → o ≠ .lst [] → o ≠ ItO l it 0 → (upd (ItX.dropH H' it) qa (.lst zs)) b = some o := fun b o e n1 n2 => by
                  rw [other b (fun z => by rw [z, hq'] at e; exact n1 (Option.some.inj e).symm) (fun z => by rw [z, hit'] at e; exact n2 (Option.some.inj e).symm)]
                  exact e
                have ht : ∀ p xs, SqT R.K H' p xs → SqT R.K (upd (ItX.dropH H' it) qa (.lst zs)) p xs := fun p xs h => by
                  rcases h with (h | ⟨ob, h⟩) | h
                  · exact .inl (.inl (keep _ _ h (fun z => nomatch z) (fun z => nomatch z)))
                  · exact .inl (.inr ⟨ob, keep _ _ h (fun z => nomatch z) (fun z => nomatch z)⟩)
                  · exact .inr h
                have hf : ∀ p ob u, H' p = some (.frz ob u) → (upd (ItX.dropH H' it) qa (.lst zs)) p = some (.frz ob u) := fun p ob u h => keep _ _ h (fun z => nomatch z) (fun z => nomatch z)
                have hx : ∀ p fs, H' p = some (.xd fs) → (upd (ItX.dropH H' it) qa (.lst zs)) p = some (.xd fs) := fun p fs h => keep _ _ h (fun z => nomatch z) (fun z => nomatch z)
                have M2 : Emb R ι' A' (upd (ItX.dropH H' it) qa (.lst zs)) := Emb.kp ht hf hx (fun a ha w e => by
                  rw [other a (fun z => nq' (z ▸ ha)) (fun z => nit' (z ▸ ha))]
                  exact e) M'
                have M3 : Emb R (ι' ++ [qa]) (A' ++ [.lst ys]) (upd (ItX.dropH H' it) qa (.lst zs)) := M2.name nq' ⟨zs, upd_same, (VRs.kp ht hf l2).pre ⟨[qa], rfl⟩⟩
                refine q (ι' ++ [qa]) _ _ ⟨⟨τ ++ [qa], by rw [eτ, List.append_assoc], fun b hb => ?_⟩, fun p xs h => ht _ _ (U'.tup _ _ (SqT.new (by rw [upd_ne (Ne.symm hne)]; exact hit) (SqT.new hq h))), fun p ob u h => ?_, fun p fs h => ?_, fun p o h n => ?_, fun p h => ?_⟩ M3 (mk_ref (by rw [← M'.len]; simp))
                · rcases List.mem_append.mp hb with z | z
                  · have := fτ b z
                    by_cases h1 : b = it
                    · subst h1; rw [hitt] at this; cases this
                    · rw [upd_ne h1] at this
                      by_cases h2 : b = qa
                      · subst h2; exact hq
                      · rw [upd_ne h2] at this; exact this
                  · rw [List.mem_singleton] at z
                    subst z
                    exact hq
                · have n1 : p ≠ qa := fun z => by rw [z, hq] at h; cases h
                  have n2 : p ≠ it := fun z => by rw [z, hit] at h; cases h
                  exact hf _ _ _ (U'.frz _ _ _ (by rw [upd_ne n2, upd_ne n1]; exact h))
                · have n1 : p ≠ qa := fun z => by rw [z, hq] at h; cases h
                  have n2 : p ≠ it := fun z => by rw [z, hit] at h; cases h
                  exact hx _ _ (U'.xd _ _ (by rw [upd_ne n2, upd_ne n1]; exact h))
                · have n1 : p ≠ qa := fun z => by rw [z, hq] at h; cases h
                  have n2 : p ≠ it := fun z => by rw [z, hit] at h; cases h
                  rw [other p n1 n2]
                  exact U'.oth _ _ (by rw [upd_ne n2, upd_ne n1]; exact h) n
                · have n1 : p ≠ qa := fun z => by rw [z, upd_same] at h; cases h
                  by_cases n2 : p = it
                  · subst n2; exact hit
                  · rw [other p n1 n2] at h
                    have := U'.there p h
                    rw [upd_ne n2, upd_ne n1] at this
                    exact this
              · exact False.elim q
            · exact False.elim q
          · exact False.elim q
        · exact False.elim q
      · exact False.elim q
    · exact False.elim q
  · exact False.elim q
end
end Sh

set_option Elab.async false
set_option linter.all false
set_option maxRecDepth 100000
set_option maxHeartbeats 4000000
/-! x in o by an own __contains__; static methods; list(o), the class's __iter__ returning iter(self.F), without a __len__ -/
namespace Sh
open PySem PySem.W L2 PyProof.Rows
section
variable {R : Rc} {X : Cx} {W : WX} {pins : List (Addr × Obj)} {σ : L2.St} {H : Hp} {s : Shared}
/-! ### in -/
theorem own_in {x y : V} {v u : Value} {Q : VK} (tk : Takes X W) (I : Inv X pins σ H s) (rx : RelV x v) (ry : RelV y u) (h : OwnC R X W "__contains__" σ y [x] H fun z H' => (∃ k, z = .bl k) ∧ Q z H') : wpAny (model X.prog X.w) X.A (compareOp .In v u) (EP X pins σ Q) X.xe s := by
  obtain ⟨C, f, g, k, MF, a, dx, fs, rfl, ha, q⟩ := h
  cases ry
  obtain ⟨ox, od, J⟩ := ins_J I ha
  obtain ⟨m, hF⟩ := I.fr
  refine PySem.W.in_K hF I.ok.mod.kin J MF.hm.at_ MF.hm.fn ?_
  refine thn (run_fnA (E := fun σ c d H' => W c d σ H') (us := [.ref a, v]) (vs := [.ref a, x]) MF.F (MF.hr.mono (by omega)) rfl (passAt tk σ) I (.cons rfl (.cons rx .nil)) q) fun z s' ⟨v', H', I', rv, ⟨⟨c, e⟩, q'⟩⟩ => ?_
  subst e
  cases rv
  exact wpAny_pure ⟨.bl c, H', I', rfl, q'⟩
def tOwnIn (R : Rc) (X : Cx) (W : WX) (ta tb : TE) : TE := fun σ H Q => ta σ H fun x H1 => tb σ H1 fun y H2 => OwnC R X W "__contains__" σ y [x] H2 fun z H' => (∃ k, z = .bl k) ∧ Q z H'
theorem pe_ownIn {a b : Expr} {ta tb : TE} {pos : Pos} (tk : Takes X W) (ha : PE X a ta) (hb : PE X b tb) (hm : behindInMarks .In b = false) : PE X (.Compare a [.In] [b] pos) (tOwnIn R X W ta tb) :=
  ⟨fun pins s σ H Q I h => wpAny_Compare1 (binT ha hb I h fun v u s2 x y H2 I2 rx ry q => own_in tk I2 rx ry q) hm⟩
def ownIn (tb : Str → Option GF) (a b : AV) (A : AH) : Res AV := (ownG tb b [a] A).bind asBool
theorem sim_ownIn {ta tb' : TE} {fa fb : EF} {tb : Str → Option GF} (hT : MethOk R X tb "__contains__") (ha : Sim R (VR R) W ta fa) (hb : Sim R (VR R) W tb' fb) : Sim R (VR R) W (tOwnIn R X W ta tb') (eOp (ownIn tb) fa fb) := fun σ ℓ H ι A Q L M q =>
  ha σ ℓ H ι A _ L M (q.bind fun a1 A1 ι1 H1 x U1 M1 v1 q1 => hb σ ℓ H1 ι1 A1 _ (L.up U1) M1 (q1.bind fun a2 A2 ι2 H2 y U2 M2 v2 q2 => by
    unfold ownIn at q2
    exact ownG_ok hT M2 v2 (by unfold VRs; exact ⟨x, [], rfl, v1.up U2, by unfold VRs; rfl⟩) (q2.bind fun v A3 ι3 H3 y U3 M3 v3 q3 => asBool_ok M3 v3 q3)))
/-! ### static methods -/
structure SMet (K : PySem.W.Frag) (C : Addr) (mc : Value) (m : Str) (p g : Addr) : Prop where
  ty : PySem.W.typeIn K (.ref C) = some mc
  at_ : PySem.W.findCls K (.ref C) mc m = some (.get (.builtin "staticmethod.__get__") (.ref p) .none (.ref C))
  rc : ∃ rest, PySem.W.recIn K p "staticmethod" = some (.ref g :: rest)
  hd : PySem.W.handedIn (.ref g) = true
  kp : PySem.W.keepIn K (.ref g) = true
structure SmFacts (R : Rc) (X : Cx) (m : Str) (C : Addr) (g : GF) (k : Nat) : Prop where
  ex : ∃ (mc : Value) (p f : Addr), ClX.CRead X.K C mc ∧ SMet X.K C mc m p f ∧ FnR X.prog X.w X.K X.mg X.base (L2.CX X.prog X.w) k f (SpG R g)
  hr : Room k X.A
def tSM (R : Rc) (X : Cx) (W : WX) (m : Str) (ta : TE) (t : TA) : TE := fun σ H Q => ta σ H fun x H1 => ∃ (C : Addr) (g : GF) (k : Nat), SmFacts R X m C g k ∧ x = .ref C ∧ t σ H1 fun vs H2 => SpG R g vs H2 Q (fun c d H' => W c d σ H')
theorem getmeths_ok {C p g : Addr} {mc : Value} {m : Str} {A : Around} {E : Value → Shared → Prop} {pl : Sem Bool} {Q : Value × List Value → Shared → Prop} (I : Inv X pins σ H s) (r : ClX.CRead X.K C mc) (c : SMet X.K C mc m p g)
    (h : ∀ s', Inv X pins σ H s' → Q (.ref g, []) s') : wpAny (model X.prog X.w) A (getMethod (.ref C) m pl) Q E s := by
  obtain ⟨_, hF⟩ := I.fr
  obtain ⟨rest, hp⟩ := c.rc
  exact PySem.W.method_of_cls hF I.ok.mod.kin r.ga (PySem.W.cls_sm hF I.ok.mod.kin c.ty r.rd c.at_ hp c.hd (h _ (I.tok _)))
theorem pe_sm {o e : Expr} {es : List Expr} {ta : TE} {t : TA} {m : Str} {apos pos : Pos} {pl : Sem Bool} (he : PE X o ta) (tk : Takes X W) (ha : PA X (e :: es) t)
    (hst : starEach (e :: es) X.env = (false, eval e X.env) :: starEach es X.env) (hpl : (backTo pos (starEach es X.env)).any (·.1) = false)
    (ht : eval (.Call (.Attribute o m apos) (e :: es) [] pos) X.env = (do
      let ov ← eval o X.env
      standAt apos.atName
      let (f, first) ← holding [ov] (getMethod ov m pl)
      callWith pos f first (backTo pos (starEach (e :: es) X.env)) (backToKw pos (keywordEach [] X.env)))) :
    PE X (.Call (.Attribute o m apos) (e :: es) [] pos) (tSM R X W m ta t) := by
  refine ⟨fun pins s σ H Q I h => ?_⟩
  refine PySem.W.methodCall_KW (pl := pl) (thn (he.run pins s σ H _ I h) fun u s1 ⟨x, H1, I1, rx, C, g, k, ⟨⟨mc, p, f, r, c, F⟩, hr⟩, ex, q⟩ => ?_) ht
  subst ex
  obtain rfl : u = Value.ref C := rx
  refine getmeths_ok I1 r c fun s2 I2 => ?_
  refine PySem.W.callWith_K (first := []) (h₀ := X.base) I.ok.mod.kin c.kp (thn (ha.run pos pins s2 σ H1 _ I2 q) fun us s3 ⟨vs, H2, I3, rv, q2⟩ => ⟨I3.kIn, ?_⟩) hst hpl
  exact run_fnRS (E := fun σ c d H' => W c d σ H') F hr (passAt tk σ) I3 rv q2
theorem pe_sm0 {o : Expr} {ta : TE} {m : Str} {apos pos : Pos} {pl : Sem Bool} (he : PE X o ta) (tk : Takes X W)
    (ht : eval (.Call (.Attribute o m apos) [] [] pos) X.env = (do
      let ov ← eval o X.env
      standAt apos.atName
      let (f, first) ← holding [ov] (getMethod ov m pl)
      callWith pos f first (backTo pos (starEach [] X.env)) (backToKw pos (keywordEach [] X.env)))) :
    PE X (.Call (.Attribute o m apos) [] [] pos) (tSM R X W m ta tNil) := by
  refine ⟨fun pins s σ H Q I h => ?_⟩
  refine PySem.W.methodCall_KW (pl := pl) (thn (he.run pins s σ H _ I h) fun u s1 ⟨x, H1, I1, rx, C, g, k, ⟨⟨mc, p, f, r, c, F⟩, hr⟩, ex, q⟩ => ?_) ht
  subst ex
  obtain rfl : u = Value.ref C := rx
  refine getmeths_ok I1 r c fun s2 I2 => ?_
  exact PySem.W.callWith_K0 (first := []) I2.kIn c.kp (run_fnRS (E := fun σ c d H' => W c d σ H') (us := []) F hr (passAt tk σ) I2 .nil q)
/-- C.m(..), m a static method -/
def eSMeth (tb : Str → Option GF) (fo : EF) (f : AF) : EF := fun ℓ A => (fo ℓ A).bind fun v A => match v with
  | .cls c => (match tb c with | some g => (f ℓ A).bind fun as A => gCall g as A | none => .bad)
  | _ => .bad
def SmOk (R : Rc) (X : Cx) (tb : Str → Option GF) (m : Str) : Prop := ∀ c g, tb c = some g → ∃ C k, R.cl c = some C ∧ SmFacts R X m C g k
theorem sim_sm {ta : TE} {fo : EF} {t : TA} {fa : AF} {tb : Str → Option GF} {m : Str} (hT : SmOk R X tb m) (ho : Sim R (VR R) W ta fo) (ha : Sim R (VRs R) W t fa) : Sim R (VR R) W (tSM R X W m ta t) (eSMeth tb fo fa) := fun σ ℓ H ι A Q L M q =>
  ho σ ℓ H ι A _ L M (q.bind fun v A1 ι1 H1 x U1 M1 v1 q1 => by
    cases v with
    | cls c =>
      simp only at q1
      split at q1
      · rename_i g eg
        obtain ⟨C, k, hC, CF⟩ := hT c g eg
        unfold VR at v1
        obtain ⟨C', h1, h2, rfl⟩ := v1
        have : C' = C := by rw [hC] at h1; exact (Option.some.inj h1).symm
        subst this
        refine ⟨C', g, k, CF, rfl, ?_⟩
        exact ha σ ℓ H1 ι1 A1 _ (L.up U1) M1 (q1.bind fun as A2 ι2 H2 xs U2 M2 v2 q2 => ⟨ι2, A2, as, M2, v2, q2⟩)
      · exact False.elim q1
    | _ => exact False.elim q1)
end
/-! ### list(o) -/
/-- a list (b: a tuple) that is walked -/
def SqK (b : Bool) (K : PySem.W.Frag) (H : Hp) (l : Addr) (zs : List V) : Prop := match b with
  | false => SqL K H l zs
  | true => SqT K H l zs
def IsK (b : Bool) (h : Heap) (l : Addr) (its : Array Value) : Prop := match b with
  | false => h.IsList l its
  | true => h.IsTuple l its
def ItAt (b : Bool) (h : Heap) (it l : Addr) (i : Nat) : Prop := match b with
  | false => h.IsListIter it l i
  | true => h.IsTupleIter it l i
def ItK (b : Bool) (l it : Addr) (i : Nat) : HO := .ext fun h => ItAt b h it l i
section
variable {b : Bool} {K : PySem.W.Frag} {h : Heap} {l it a : Addr} {i : Nat} {H : Hp} {zs : List V} {o : HO} {its : Array Value}
theorem ItAt.there (p : ItAt b h it l i) : ∃ o, h.get? it = some o := by
  cases b <;> exact ⟨_, p.choose_spec.1⟩
theorem ItAt.at {h2 : Heap} (p : ItAt b h it l i) (k : ∀ o, h.get? it = some o → h2.get? it = some o) : ItAt b h2 it l i := by
  cases b <;> exact let ⟨o, e, r⟩ := p; ⟨o, k o e, r⟩
theorem itK_ok {P : Program} {w : World} (p : ItAt b h it l i) : ObjOk P w H h it (ItK b l it i) := ⟨p, p.there, fun _ _ q k => q.at k⟩
theorem SqK.new (n : H a = none) (q : SqK b K H l zs) : SqK b K (upd H a o) l zs := by
  cases b
  · exact SqL.new n q
  · exact SqT.new n q
end
/-- what such an __iter__ promises -/
def spItK (b : Bool) (K : PySem.W.Frag) (F : Str) : Sp := fun vs H Q _ => ∃ a C dx fs l zs, vs = [.ref a] ∧ H a = some (.ins C dx fs) ∧ Cls K C ∧ NoAttr K C F ∧ fs.lookup F = some (.ref l) ∧ SqK b K H l zs ∧ ∀ it, H it = none → (∀ c, H c ≠ none → c < it) → Q (.ref it) (upd H it (ItK b l it 0))
def rIterK (b : Bool) (K : PySem.W.Frag) : List V → Hp → VK → Prop := fun xs H Q => ∃ (l : Addr) (zs : List V), xs = [.ref l] ∧ SqK b K H l zs ∧ ∀ it, H it = none → (∀ c, H c ≠ none → c < it) → Q (.ref it) (upd H it (ItK b l it 0))
section
variable {X : Cx} {pins : List (Addr × Obj)} {σ : L2.St} {H : Hp} {s : Shared} {b : Bool} {l it q a : Addr} {zs : List V} {i : Nat}
theorem itK_get (I : Inv X pins σ H s) (e : H it = some (ItK b l it i)) : ItAt b s.heap it l i := (I.hok it _ e).1
theorem seqK (I : Inv X pins σ H s) (h : SqK b X.K H l zs) : ∃ its : List Value, Vals zs its ∧ IsK b s.heap l its.toArray ∧ zs.length ≤ sizeLine := by
  cases b
  · obtain ⟨its, rv, pl, z⟩ := I.list h
    exact ⟨its, rv, pl.isList, z⟩
  · obtain ⟨its, rv, pl, z⟩ := I.tuple h
    exact ⟨its, rv, pl, z⟩
theorem pyIterK {A : Around} {E : Value → Shared → Prop} {items : Array Value} {Q : Value → Shared → Prop} (hs : IsK b s.heap l items)
    (h : ∀ o, ItAt b (s.heap.push o) s.heap.objs.size l 0 → Q (.ref s.heap.objs.size) { s with heap := s.heap.push o }) : wpAny (model X.prog X.w) A (pyIter (.ref l)) Q E s := by
  cases b
  · exact wpAny_pyIter_list hs (h _ ⟨_, Heap.get?_push_size _ rfl, rfl, rfl⟩)
  · exact wpAny_pyIter_tuple hs (h _ ⟨_, Heap.get?_push_size _ rfl, rfl, rfl⟩)
theorem call_iterK : CallR X (.builtin "iter") (rIterK b X.K) := by
  intro pins s σ H xs us Q I r h
  obtain ⟨l, zs, rfl, hq, q⟩ := h
  obtain ⟨u, rfl, ru⟩ := vals1 r
  cases ru
  obtain ⟨its, rv, pl, hz⟩ := seqK I hq
  refine Calls.call_function_entry (by decide +kernel) (by decide +kernel) PySem.W.kdk_entry_iter (PySem.W.kdk_args_iter _) ?_
  unfold Builtin.«iter»
  refine wpAny_bind (m := someArgs "iter" 1 2 _) (wpAny_of_eq (a := [Value.ref l]) (by first | rfl | kernel_rfl!) (wpAny_bind (m := pyIter (.ref l)) (pyIterK (X := X) pl fun o ho => wpAny_pure ⟨_, rfl, ?_⟩)))
  exact ⟨.ref s.heap.objs.size, _, I.laid (t' := s.toks) (fun b u e => Heap.get?_push_of_some _ e) (Nat.le_refl _) (itK_ok ho), rfl, q _ (I.hok.fresh (Nat.le_refl _)) fun b hb => tracked_lt I hb⟩
theorem nextK {A : Around} {E : Value → Shared → Prop} {items : Array Value} {x : Value} {Q : Option Value → Shared → Prop} (hi : ItAt b s.heap it l i) (hs : IsK b s.heap l items) (hx : items[i]? = some x)
    (h : ∀ h', ItAt b h' it l (i + 1) → Heap.SameBut it s.heap h' → Q (some x) { s with heap := h' }) : wpAny (model X.prog X.w) A (pyNext (.ref it)) Q E s := by
  cases b
  · exact wpAny_pyNext_list_item hi hs hx h
  · exact wpAny_pyNext_tuple_item hi hs hx h
theorem endK {A : Around} {E : Value → Shared → Prop} {items : Array Value} {Q : Option Value → Shared → Prop} (hh : A.handled = none) (hi : ItAt b s.heap it l i) (hs : IsK b s.heap l items) (hx : items[i]? = none)
    (h : ∀ h', Heap.ExtBut it s.heap h' → Q none { s with heap := h' }) : wpAny (model X.prog X.w) A (pyNext (.ref it)) Q E s := by
  cases b
  · exact wpAny_pyNext_list_end hh hi hs hx h
  · exact wpAny_pyNext_tuple_end hh hi hs hx h
theorem loopK {A1 : Around} {Rs : Result → Shared → Prop} (hh : A1.handled = none) (hH : SqK b X.K H l zs) (hqn : H q = none) (hf : ∀ i, FpOk X pins (HI H q zs i) it) (hz : zs.length ≤ sizeLine)
    (hdone : ∀ s', Inv X pins σ (upd H q (.lst zs)) s' → Rs (.ok (.ret .none)) s') : ∀ (m i : Nat) (s : Shared), i + m = zs.length → Inv X pins σ (HI H q zs i) s → ItAt b s.heap it l i →
    codeAny (model X.prog X.w) A1 (.builtin "list.extend.loop" ⟨[.ref q, .ref it, .none], []⟩) Rs s
  | m, i, s, him, I, hit => by
    refine codeAny_builtin PySem.F.entry_extend_loop ?_
    rw [Around.under_plainId PySem.F.plain_extend_loop _]
    show wpAny _ A1.in1 (pyNext (.ref it) >>= _) _ _ s
    obtain ⟨its, rv, pl, hzz⟩ := seqK I (SqK.new (o := .lst (zs.take i)) hqn hH : SqK b X.K (HI H q zs i) l zs)
    have hne : q ≠ it := fun e => by
      have h1 : HI H q zs i it = none := (hf i).1
      rw [← e] at h1
      have h2 : HI H q zs i q = some _ := upd_same
      rw [h2] at h1
      cases h1
    have mem1 : ∀ {j : Nat} {b : Addr}, b ∈ [it] → FpOk X pins (HI H q zs j) b := fun {j b} hb => by rw [List.mem_singleton] at hb; subst hb; exact hf j
    cases m with
    | zero =>
      have hi : i = zs.length := by omega
      subst hi
      refine wpAny_bind (endK (X := X) (A := A1.in1) hh hit pl (by rw [List.getElem?_toArray]; exact rv.none_of (by simp)) fun h' e => ?_)
      have I2 : Inv X pins σ (HI H q zs zs.length) { s with heap := h' } := Inv.turnedL (t' := s.toks) (ch := [it]) I (fun b o nb z => e b o (by simpa using nb) z) fun b hb => mem1 hb
      refine wpAny_pure (hdone _ ?_)
      have e2 : HI H q zs zs.length = upd H q (.lst zs) := by show upd H q (.lst (zs.take zs.length)) = _; rw [List.take_length]
      rw [e2] at I2
      exact I2
    | succ m =>
      have hi : i < zs.length := by omega
      obtain ⟨w', hw, rw'⟩ := rv.get (List.getElem?_eq_getElem hi)
      refine wpAny_bind (nextK (X := X) hit pl (by rw [List.getElem?_toArray]; exact hw) fun h' e' sb => ?_)
      have I2 : Inv X pins σ (HI H q zs i) { s with heap := h' } := Inv.turnedL (t' := s.toks) (ch := [it]) I (fun b o nb z => (sb.2 b (by simpa using nb)).trans z) fun b hb => mem1 hb
      show wpAny _ A1.in1 (updateSeq q (·.push w') >>= _) _ _ _
      obtain ⟨z, its2, k, r2, hl2, e2⟩ := I2.lstM (upd_same (H := H) (a := q))
      have hlen : its2.length = i := by rw [← r2.length, List.length_take]; omega
      refine wpAny_bind (wpAny_updateSeq e2 rfl (wpAny_pure ⟨plainId_quiet PySem.F.plain_extend_loop _, ?_⟩) (by rw [List.size_toArray]; omega) (by show (its2.toArray.push w').size ≤ sizeLine + 1; rw [Array.size_push, List.size_toArray]; omega))
      have I3 := I2.lset (f := (·.push w')) (its' := its2 ++ [w']) (t' := s.toks) upd_same e2 (by simp) (r2.append (.cons rw' .nil)) (by rw [List.length_append, List.length_singleton, List.length_take]; omega)
      have eH : upd (HI H q zs i) q (.lst (zs.take i ++ [zs[i]])) = HI H q zs (i + 1) := by
        show upd (upd H q _) q _ = upd H q _
        rw [upd_upd, List.take_append_getElem hi]
      rw [eH] at I3
      refine loopK hh hH hqn hf hz hdone m (i + 1) _ (by omega) I3 (e'.at fun o ho => ?_)
      show (h'.update q (Obj.mapSeq fun x => x.push w')).get? it = some o
      rw [Heap.get?_update_other _ _ hne]
      exact ho
/-- what is asked of list(o) -/
structure ItN (X : Cx) (C : Addr) (F : Str) (fi : Addr) (ki : Nat) : Prop where
  m : Meth X.K C "__iter__" fi
  c : Cls X.K C
  n : NoAttr X.K C F
  nolen : PySem.W.findIn X.K (.ref C) "__len__" = some none
  nohint : PySem.W.findIn X.K (.ref C) "__length_hint__" = some none
  F : ∀ b, FnR X.prog X.w X.K X.mg X.base (L2.CX X.prog X.w) ki fi (spItK b X.K F)
  r : Room (ki + 4) X.A
def rListK (X : Cx) : List V → Hp → VK → Prop := fun vs H Q => ∃ (a C dx : Addr) (fs : List (Str × V)) (F : Str) (fi : Addr) (ki : Nat) (l : Addr) (zs : List V) (b : Bool),
  vs = [.ref a] ∧ H a = some (.ins C dx fs) ∧ ItN X C F fi ki ∧ fs.lookup F = some (.ref l) ∧ SqK b X.K H l zs ∧ ∀ q, H q = none → Q (.ref q) (upd H q (.lst zs))
theorem extendK {A1 : Around} {Rs : Result → Shared → Prop} {C dx fi : Addr} {fs : List (Str × V)} {F : Str} {ki : Nat} {Q : VK} (hfr : A1.frames = X.A.frames) (hri : Room ki A1.in1) (hh : A1.handled = none) (N : ItN X C F fi ki)
    (I : Inv X pins σ (upd H q (.lst [])) s) (hyoung : X.s_0.heap.objs.size ≤ q) (hqn : H q = none) (ha : H a = some (.ins C dx fs)) (hl : fs.lookup F = some (.ref l)) (hs : SqK b X.K H l zs) (hz : zs.length ≤ sizeLine)
    (hdone : ∀ s', Inv X pins σ (upd H q (.lst zs)) s' → Rs (.ok (.ret .none)) s') :
    wpAny (model X.prog X.w) A1.in1 (Builtin.List.listExtendWith (.ref q) (.ref a) .none)
      (fun fin s' => match fin with | .done f => Rs (.ok f) s' | .again c' => c'.quiet = true ∧ codeAny (model X.prog X.w) A1 c' Rs s') (fun e s' => Rs (.error e) s') s := by
  have hne : q ≠ a := fun e => by rw [← e, hqn] at ha; cases ha
  have ha1 : upd H q (.lst []) a = some (.ins C dx fs) := by rw [upd_ne (Ne.symm hne)]; exact ha
  obtain ⟨ox, od, J⟩ := ins_J I ha1
  obtain ⟨m0, hF⟩ := I.fr
  unfold Builtin.List.listExtendWith
  refine wpAny_bind (J.type.here ?_)
  have h1 : Builtin.List.listSameRef (.ref q) (.ref a) = false := by simp [Builtin.List.listSameRef, hne]
  have h2 : (Value.ref C == Value.type "list") = false := rfl
  have h3 : (Value.ref C == Value.type "tuple") = false := rfl
  simp only [h1, h2, h3, Bool.or_false, Bool.false_eq_true, if_false]
  refine wpAny_bind (PySem.W.owit_iter hF I.ok.mod.kin J N.m.at_ N.m.fn ?_)
  have e0 : Env0 X.prog X.w X.K X.mg X.base A1.in1 X.stack s (upd H q (.lst [])) := by
    have e := I.env0
    exact ⟨by show A1.frames = _; rw [hfr]; exact e.frames, e.mod, e.bs, e.bsz, e.funs, e.frf, e.hok, e.bare⟩
  have sp : spItK b X.K F [.ref a] (upd H q (.lst [])) (fun v H' => ∃ it, v = .ref it ∧ H it = none ∧ q < it ∧ H' = upd (upd H q (.lst [])) it (ItK b l it 0)) (fun _ _ _ => False) :=
    ⟨a, C, dx, fs, l, zs, rfl, ha1, N.c, N.n, hl, SqK.new hqn hs, fun it hit hlt => by
      have hq : q < it := hlt q (by rw [upd_same]; exact fun z => nomatch z)
      rw [upd_ne (Nat.ne_of_gt hq)] at hit
      exact ⟨it, rfl, hit, hq, rfl⟩⟩
  refine wpAny_call (codeAny_mono ((N.F b).go (us := [.ref a]) (vs := [.ref a]) hri e0 (.cons rfl .nil) sp) fun r s' hq' => ?_)
  cases r with
  | error e =>
    obtain ⟨_, _, _, _, _, _, _, _, _, _, _, _, z⟩ := hq'
    exact False.elim z
  | ok fl' =>
    cases fl' with
    | next => exact False.elim hq'
    | brk => exact False.elim hq'
    | cont => exact False.elim hq'
    | ret u =>
      obtain ⟨v, H', I', rv, it, ev, hit, hqit, eH⟩ := I.after hq'
      subst ev
      subst eH
      cases rv
      have hobj := itK_get I' upd_same
      have ha2 : upd (upd H q (.lst [])) it (ItK b l it 0) a = some (.ins C dx fs) := by
        rw [upd_ne (fun z => by rw [z, hit] at ha; cases ha)]
        exact ha1
      obtain ⟨ox2, od2, J2⟩ := ins_J I' ha2
      have hint : ∀ {A : Around} {E : Value → Shared → Prop} {Q : Bool → Shared → Prop}, Q true s' → wpAny (model X.prog X.w) A (Builtin.List.listLengthHint (.ref a)) Q E s' := fun {A E Q} h => by
        unfold Builtin.List.listLengthHint
        refine wpAny_bind (wpAny_bind (J2.type.here ((PySem.W.looks_findIn I'.kIn N.nolen).here (PySem.W.KFB.if_not rfl (PySem.W.KFB.if_not rfl ?_)))))
        exact wpAny_bind (wpAny_bind (J2.type.here ((PySem.W.looks_findIn I'.kIn N.nohint).here (wpAny_pure h))))
      have eH2 : ItX.dropH (upd (upd H q (.lst [])) it (ItK b l it 0)) it = upd H q (.lst []) := ItX.dropH_upd (by rw [upd_ne (Nat.ne_of_gt hqit)]; exact hit)
      have I3 : Inv X pins σ (upd H q (.lst [])) s' := by
        have := ItX.inv_drop I' upd_same
        rw [eH2] at this
        exact this
      have fp0 : FpOk X pins (upd H q (.lst [])) it := by
        have := ItX.inv_fp I' upd_same (Nat.le_of_lt (Nat.lt_of_le_of_lt hyoung hqit))
        rw [eH2] at this
        exact this
      have go : ∀ s3, Inv X pins σ (upd H q (.lst [])) s3 → ItAt b s3.heap it l 0 → codeAny (model X.prog X.w) A1 (.builtin "list.extend.loop" ⟨[.ref q, .ref it, .none], []⟩) Rs s3 := fun s3 I3 ho => by
        refine loopK hh hs hqn (fun i => ?_) hz hdone zs.length 0 s3 (by omega) (by show Inv X pins σ (upd H q (.lst (zs.take 0))) s3; rw [List.take_zero]; exact I3) ho
        have := fp_upd (o := .lst (zs.take i)) (Nat.ne_of_lt hqit) fp0
        rw [upd_upd] at this
        exact this
      unfold PySem.W.OwitIt
      have nx : ∀ {A : Around} {E : Value → Shared → Prop} {Q : Option Value → Shared → Prop} , (∀ f, Q (some f) s') → wpAny (model X.prog X.w) A (specialOf (.ref it) "__next__") Q E s' := fun {A E Q} h => by
        cases b
        · exact wpAny_specialOf (name := Str.ofString "__next__") hobj.typeIs slot_listiter_next.lookup (h _)
        · exact wpAny_specialOf (name := Str.ofString "__next__") hobj.typeIs PySem.F.slot_tuple_iterator_next.lookup (h _)
      refine nx fun f => ?_
      refine wpAny_bind (wpAny_holding (hint ?_))
      refine wpAny_ite_split (fun _ => ?_) (fun _ => wpAny_pure ⟨plainId_quiet PySem.F.plain_extend_loop _, go _ I3 hobj⟩)
      obtain ⟨z, its, k, r3, hl3, e3⟩ := I3.lstM (upd_same (H := H) (a := q))
      cases r3
      refine wpAny_bind (wpAny_rule ?_)
      refine wpAny_bind ?_
      show wpAny _ _ (updateSeq q (·.push .none) >>= fun _ => updateSeq q (·.pop)) _ _ _
      refine wpAny_bind (wpAny_updateSeq e3 rfl ?_)
      have I4 := I3.lset (f := (·.push Value.none)) (its' := [Value.none]) (ys := [.non]) (t' := s'.toks) upd_same e3 (by simp) (.cons rfl .nil) (by rw [List.length_singleton, sizeLine_eq]; decide)
      obtain ⟨z4, its4, k4, r4, hl4, e4⟩ := I4.lstM upd_same
      obtain ⟨u4, rfl, ru4⟩ := r4.one
      refine wpAny_updateSeq e4 rfl ?_ (by show 1 ≤ sizeLine; rw [sizeLine_eq]; decide) (by show 0 ≤ sizeLine + 1; exact Nat.zero_le _)
      have I5 := I4.lset (f := (·.pop)) (its := [u4]) (its' := []) (ys := []) (t' := s'.toks) upd_same e4 (by rfl) .nil (Nat.zero_le _)
      rw [upd_upd, upd_upd] at I5
      refine wpAny_pure ⟨plainId_quiet PySem.F.plain_extend_loop _, go _ I5 (hobj.at fun o ho => ?_)⟩
      show ((s'.heap.update q _).update q _).get? it = _
      rw [Heap.get?_update_other _ _ (Nat.ne_of_lt hqit), Heap.get?_update_other _ _ (Nat.ne_of_lt hqit)]
      exact ho
end
end Sh

set_option Elab.async false
set_option linter.all false
set_option maxRecDepth 100000
set_option maxHeartbeats 4000000
namespace Sx
open PySem PySem.W PySem.Calls PyProof.Rows PySem.HandSPX L2
/-! ### the text of an error's __init__: super().__init__('..'), then self.f = p -/
def xA (p : Str) (p1 p2 : Pos) : Arguments := { posonlyargs := [], args := [{ arg := "self", annotation := none, pos := p1 }, { arg := p, annotation := none, pos := p2 }], vararg := none, kwonlyargs := [], kw_defaults := [], kwarg := none, defaults := [] }
structure Ps where
  (a b c d e g h i j k : Pos)
def xB (f p msg : Str) (P : Ps) : List Stmt :=
  [.Expr (.Call (.Attribute (.Call (.Name "super" P.a) [] [] P.b) "__init__" P.c) [.Constant (.str msg) 0 P.d] [] P.e) P.e,
   .Assign [.Attribute (.Name "self" P.g) f P.h] (.Name p P.i) P.j]
def xS (p : Str) : Scope := { kind := .function, names := [(PySem.Str.ofString "self", .local), (p, .local), (PySem.Str.ofString "__class__", .free), (PySem.Str.ofString "super", .globalImplicit)], isGenerator := false, isCoroutine := false, more := [] }
structure PName (p : Str) : Prop where
  su : (xS p).names.lookup ("super" : Str) = some .globalImplicit
  cl : (xS p).names.lookup ("__class__" : Str) = some .free
  pa : (xS p).names.lookup p = some .local
  se : (xS p).names.lookup ("self" : Str) = some .local
  ne : (("self" : Str) == p) = false
  db : (p == ("__debug__" : Str)) = false
  bd : ∀ (q : Str) (p1 p2 : Pos) (b : List Stmt) (doc pm : Value) (an : Option Addr) (cdv ct : Value) (cc : Addr) (u v : Value), bindArgs (ksFn "__init__" q (xA p p1 p2) b (xS p) .none .none doc pm an cdv ct cc) ⟨[u, v], []⟩ = pure [(("self" : Str), u), (p, v)]
/-- the call stands in the row of its name -/
theorem ev_super {P : Ps} {o : Expr} {msg : Str} {env : Env} (hl : (P.c.endLine == P.e.line) = true) : eval (.Call (.Attribute o "__init__" P.c) [.Constant (.str msg) 0 P.d] [] P.e) env = (do
      let ov ← attributeBase o "__init__" env (eval o env)
      standAt P.c.atName
      let (f, first) ← holding [ov] (getMethod ov "__init__" (do return (← importBound o env).getD true))
      callWith P.e f first (backTo P.e (starEach [.Constant (.str msg) 0 P.d] env)) []) := by
  rw [arm_eval_Call]
  have hform : methodCallForm (([.Constant (.str msg) 0 P.d] : List Expr).length + ([] : List Keyword).length) (backTo P.e (starEach [.Constant (.str msg) 0 P.d] env)) (backToKw P.e (keywordEach [] env)) = true := by rfl
  have hpos : methodCallPos true o env P.c P.e = pure P.e := by unfold methodCallPos; simp [hl]
  unfold methodCall
  rw [hform, hpos]
  simp only [pure_bind]
  rfl
/-- what the written part says of the class at C, and of its __init__ at fI -/
structure Tx (prog : Program) (K : Frag) (C fI : Addr) (f p msg qual : Str) : Prop where
  ox : OexC K C
  noN : findIn K (.ref C) f = some none
  iC : findIn K (.ref C) "__init__" = some (some (.ref fI))
  tI : typeIn K (.ref fI) = some (.type "function")
  su : ks_superIn K C C "__init__" = some (some (.builtin "ValueError.__init__"))
  ve : subIn K (.ref C) (.type "ValueError") = some true
  own : mroIn K C (.ref C) = some true
  op : nsIn K cStatics "thirdparty.any" = some none
  st : (prog.main.scope.names.lookup ("super" : Str)).isSome = false
  pn : PName p
  fn : ∃ (oc : Value) (od : Option Addr) (doc pm : Value) (an : Option Addr) (cda : Addr) (ct : Value) (osl : Array (Option Value)) (cc : Addr) (p1 p2 : Pos) (P : Ps),
    K.lookup fI = some ⟨oc, od, .func (ksFn "__init__" qual (xA p p1 p2) (xB f p msg P) (xS p) .none .none doc pm an (.ref cda) ct cc), osl⟩ ∧ codeIn K (.ref cda) qual = true ∧
    (∃ cl cld csl, K.lookup cc = some ⟨cl, cld, .cell (some (.ref C)), csl⟩) ∧
    (∃ ccl cdd vs ccs file tf, K.lookup cda = some ⟨ccl, cdd, .fields vs, ccs⟩ ∧ vs[2]? = some (.str file tf) ∧ ((prog.main.file : Str) == file) = true) ∧ (P.c.endLine == P.e.line) = true
/-- what __init__ leaves of a fresh exception at x -/
structure Left (h h' : Heap) (x C dx t1 : Addr) (f : Str) (v : Value) : Prop where
  keep : ∀ b o, b ≠ x → h.get? b = some o → h'.get? b = some o
  obj : h'.get? x = some { cls := .ref C, dict := some dx, data := .fields #[.ref t1, .none, .none, .none, .bool false, .none] }
  dbig : h.objs.size ≤ dx
  dne : dx ≠ x
  ns : h'.Ns1 dx (fun y => if y = f then some v else none)
section
variable {prog : Program} {w : World} {A : Around} {E : Value → Shared → Prop} {R : Result → Shared → Prop} {s : Shared} {K : Frag} {mg mb : Str → Option Value} {C fI : Addr} {f p msg qual : Str}
/-- the bound ValueError.__init__ called -/
theorem call_mw {u x t0 : Addr} {rest : List Value} {h : Heap} {g : Array GenState} {d : Drawn} {t : Nat} {os : OsState} {Q : Value → Shared → Prop} (T : OexC K C) (X : K.In h) (hx : h.get? x = some (excO C t0)) (hu : h.get? u = some (kxs_mw "ValueError.__init__" x)) (hz : rest.length ≤ sizeLine)
    (hq : ∀ h' t1, (∀ b o, b ≠ x → h.get? b = some o → h'.get? b = some o) → h'.get? x = some (excO C t1) → Q .none ⟨h', g, d, t, os⟩) :
    wpAny (model prog w) A (call (.ref u) rest) Q E ⟨h, g, d, t, os⟩ := by
  obtain ⟨nm, q, N, bs, bm, sn, sub, ab, col, dd, k0, k1, k2, k3, k5, hC, hbm⟩ := T.cls
  have hm : (Value.type "method-wrapper" == Value.type "method" || Value.type "method-wrapper" == Value.type "builtin_function_or_method" || Value.type "method-wrapper" == Value.type "method-wrapper") = true := by decide
  refine wpAny_call (codeAny_of_tree ?_)
  change wpAny (model prog w) A.in1 (callAny (.ref u) { pos := rest, kw := [] }) _ _ _
  rw [callAny]
  refine wpAny_bind (wpAny_load hu ?_)
  simp only [kxs_mw, hm, if_true]
  refine KFB.if_so (by decide) (wpAny_bind (check_bound_init F.excBase_ValueError.toExcCallFacts (X _ _ hC) hx rfl (wpAny_bind (wpAny_pure (wpAny_pure ?_)))))
  exact ⟨plainId_quiet F.excBase_ValueError.init.plain _, codeAny_builtin F.excBase_ValueError.initEntry (exc_init_tree (cls := .ref C) (t0 := t0) (dv := none) (c2 := .none) (c3 := .none) (b4 := .bool false) hx hz fun h' k e' _ => hq h' _ k e')⟩
/-- the error's __init__ -/
theorem init_ok (T : Tx prog K C fI f p msg qual) {x t0 : Addr} {v : Value} (X : K.In s.heap) (G : s.heap.Ns mainGlobals mg) (hsu : mg "super" = none) (B : s.heap.Ns builtinsNs mb) (hbu : mb "super" = some (.type "super")) (hlim : s.heap.NoLimit) (hx : s.heap.get? x = some (excO C t0)) (hnx : K.lookup x = none) (hroom : A.depth < recursionLimit)
    (hq : ∀ h' tk dx t1, Left s.heap h' x C dx t1 f v → R (.ok (.ret .none)) { s with heap := h', toks := tk }) :
    codeAny (model prog w) A (.call (.ref fI) ⟨[.ref x, v], []⟩) R s := by
  obtain ⟨oc, od, doc, pm, an, cda, ct, osl, cc, p1, p2, P, ho, hcd, ⟨cl, cld, csl, hcell⟩, ⟨ccl, cdd, vs, ccs, file, tf, hcode, hvs, hfile⟩, hline⟩ := T.fn
  obtain ⟨nm, q, N, bs, bm, sn, sub, ab, col, dd, k0, k1, k2, k3, k5, hC, hbm⟩ := T.ox.cls
  have hcl : clsIn K C = some { name := nm, bases := bs, mro := .ref C :: bm, ns := N, qualname := q, hasDict := true, slotNames := sn, subclasses := sub, abstract := ab, collection := col, hasDel := false } := by unfold clsIn; rw [hC] <;> rfl
  have m1 : List.lookup ("self" : Str) [(("self" : Str), Value.ref x), (p, v)].reverse = some (.ref x) := by
    show List.lookup ("self" : Str) [(p, v), (("self" : Str), Value.ref x)] = _
    simp [List.lookup, T.pn.ne]
  have m2 : List.lookup p [(("self" : Str), Value.ref x), (p, v)].reverse = some v := by
    show List.lookup p [(p, v), (("self" : Str), Value.ref x)] = _
    simp [List.lookup]
  refine ks_codeAny_call_defAt (fd := ksFn "__init__" qual (xA p p1 p2) (xB f p msg P) (xS p) .none .none doc pm an (.ref cda) ct cc) (body := xB f p msg P) (binds := [(("self" : Str), .ref x), (p, v)]) hroom (X _ _ ho) rfl hlim (codeRec_of X hcd) rfl (BindsTo.of_eq (T.pn.bd ..)) ?_ ?_ (fun h₁ hns k => ?_)
  · intro y hy
    simp only [ksFn, fnX, xS, List.mem_cons, List.not_mem_nil, or_false] at hy
    rcases hy with rfl | rfl | rfl | rfl <;> (intro z; cases z)
  · intro y hy
    simp only [List.mem_cons, List.not_mem_nil, or_false] at hy
    rcases hy with rfl | rfl
    · exact T.pn.se
    · exact T.pn.pa
  · have X₁ : K.In h₁ := X.keeps k
    have hx₁ := k _ _ hx
    obtain ⟨hp, g, dr, tk, os⟩ := s
    have hcm : x ≠ C := by
      rintro rfl
      have e := X _ _ hC
      rw [hx] at e
      cases e
    refine ks_wpAt_execs_cons (ks_wpAt_Expr_any (ks_wpAt_MethodCall (he := ev_super hline) (ks_wpAt_super_base (ar := { arg := "self", annotation := none, pos := p1 }) T.pn.su T.pn.cl (by decide) rfl (X₁ _ _ ho) rfl rfl rfl (X₁ _ _ hcode) rfl hvs hfile T.st ?_)))
    refine ks_loadName_global rfl T.pn.su (loadGlobal_builtin (G.keeps k) hsu (B.keeps k) hbu ⟨rfl, ?_⟩)
    refine wpAny_loadName_free rfl T.pn.cl rfl ⟨_, X₁ _ _ hcell, rfl⟩ ?_
    refine wpAny_loadName_local rfl T.pn.se hns m1 ?_
    refine ks_wpAny_isType_cls (X₁ _ _ hC) rfl ⟨rfl, ?_⟩
    refine ks_wpAny_call_super (X₁ _ _ hC) rfl hx₁ rfl (fun c e => by cases e) (looks_mroIn X₁ T.own) (fun h2 e2 kk2 => ?_)
    have X₂ : K.In h2 := X₁.keeps kk2
    have hx₂ := kk2 _ _ hx₁
    have hI : Looks (model prog w) h2 (isInstance (.ref x) (.type "ValueError")) true := (InstAt.type (ox := excO C t0) (od := none) ⟨hx₂, rfl, rfl, trivial⟩).andThen (looks_subIn X₂ T.ve)
    have hf : alongIn K "__init__" ((((Value.ref C :: bm)).dropWhile (· != .ref C)).drop 1) = some (some (.builtin "ValueError.__init__")) := by
      have z := T.su
      unfold ks_superIn at z
      rw [hcl] at z
      exact z
    refine kxs_getMethod kxs_ValueError e2 (looks_opaque X₂ T.op) (l₀ := .ref C :: bm) (fun A Q E s kq q => wpAny_bind ((looks_clsIn X₂ hcl) A _ E s kq (wpAny_pure q))) rfl X₂ hf hI hcm (by decide) ?_
    refine kxs_callWith (i := "ValueError.__init__") (x := x) rfl (evalArgs_plain (PyProof.Rows.spliced_more (wpAny_Constant_str (PyProof.Rows.spliced_none ⟨?_, ?_⟩))))
    · exact Heap.get?_push_at rfl rfl
    · have k3 : ∀ b o, h2.get? b = some o → (h2.push (kxs_mw "ValueError.__init__" x)).get? b = some o := fun b o e => Heap.get?_push_of_some _ e
      refine call_mw T.ox (X₂.keeps k3) (k3 _ _ hx₂) (Heap.get?_push_at rfl rfl) (by rw [sizeLine_eq]; show 1 ≤ 16777216; decide) (fun h4 t1 k4 hx₄ => ?_)
      have k5 : ∀ b o, b ≠ x → hp.get? b = some o → h4.get? b = some o := fun b o hb e => k4 b o hb (k3 b o (kk2 b o (k b o e)))
      have X₄ : K.In h4 := fun b o e => k5 b o (fun z => by rw [z, hnx] at e; cases e) (X b o e)
      have xL : hp.objs.size ≠ x := Nat.ne_of_gt (Heap.lt_size hx)
      have hns4 : h4.Ns hp.objs.size (fun y => List.lookup y [(("self" : Str), Value.ref x), (p, v)].reverse) := by
        obtain ⟨oL, es, ep, hL, r⟩ := hns
        exact ⟨oL, es, ep, k4 _ _ xL (k3 _ _ (kk2 _ _ hL)), r⟩
      refine ks_wpAt_execs_cons (ks_wpAt_Assign_Attr (wpAt_of_wpAny (wpAny_Name (wpAny_loadName_local rfl T.pn.pa hns4 m2 (wpAny_Name (wpAny_loadName_local rfl T.pn.se hns4 m1 ?_) (by decide))) T.pn.db)))
      refine set_plain X₄ (ox := excO C t1) (od := none) ⟨hx₄, rfl, rfl, trivial⟩ T.ox.sa ?_
      refine exc_osa X₄ hx₄ hcl (show refsVE (.ref C :: bm) = true from hbm) rfl T.noN (fun h₃ tk₃ dx k₃ dn dne hx₃ hn₃ => ?_)
      have z1 : hp.objs.size ≤ h4.objs.size := Nat.le_of_lt (by
        obtain ⟨oL, es, ep, hL, r⟩ := hns4
        exact Heap.lt_size hL)
      exact wpAt_of_wpAny (wpAny_execs_nil (hq h₃ tk₃ dx t1 ⟨fun b o hb e => k₃ b o hb (k5 b o hb e), hx₃, Nat.le_trans z1 dn, dne, hn₃⟩))
end
end Sx

set_option Elab.async false
set_option linter.all false
set_option maxRecDepth 100000
set_option maxHeartbeats 4000000
namespace Sx
open PySem PySem.W PySem.Calls PyProof.Rows PySem.HandSPX L2
/-- an error that was made -/
structure Made (h h' : Heap) (e C d : Addr) (f : Str) (v : Value) : Prop where
  keep : ∀ b o, h.get? b = some o → h'.get? b = some o
  new : h.objs.size ≤ e
  obj : ∃ oe vs, h'.get? e = some oe ∧ oe.cls = .ref C ∧ oe.dict = some d ∧ oe.data = .fields vs ∧ vs[1]? = some .none
  dbig : h.objs.size ≤ d
  dne : d ≠ e
  ns : h'.Ns1 d (fun y => if y = f then some v else none)
section
variable {prog : Program} {w : World} {A : Around} {E : Value → Shared → Prop} {R : Result → Shared → Prop} {s : Shared} {K : Frag} {mg mb : Str → Option Value} {C fI : Addr} {f p msg qual : Str}
theorem made_ok (T : Tx prog K C fI f p msg qual) {v : Value} (X : K.In s.heap) (G : s.heap.Ns mainGlobals mg) (hsu : mg "super" = none) (B : s.heap.Ns builtinsNs mb) (hbu : mb "super" = some (.type "super")) (hlim : s.heap.NoLimit) (hroom : A.depth + 1 < recursionLimit)
    (hq : ∀ h' tk e d, Made s.heap h' e C d f v → R (.ok (.ret (.ref e))) { s with heap := h', toks := tk }) : codeAny (model prog w) A (.call (.ref C) ⟨[v], []⟩) R s := by
  obtain ⟨nm, q, N, bs, bm, sn, sub, ab, col, dd, k0, k1, k2, k3, k5, hC, hbm⟩ := T.ox.cls
  obtain ⟨hp, g, dr, tk, os⟩ := s
  have k : ∀ b o, hp.get? b = some o → ((hp.push (kdv_tup [v])).push (excO C hp.objs.size)).get? b = some o := fun b o e => Heap.get?_push_of_some _ (Heap.get?_push_of_some _ e)
  have hget : ((hp.push (kdv_tup [v])).push (excO C hp.objs.size)).get? (hp.objs.size + 1) = some (excO C hp.objs.size) := by heap_get
  have hnx : K.lookup (hp.objs.size + 1) = none := by
    cases e : K.lookup (hp.objs.size + 1) with
    | none => rfl
    | some o => exact absurd (Nat.lt_of_succ_lt (Heap.lt_size (X _ _ e))) (Nat.lt_irrefl _)
  have h1 : [v].length ≤ sizeLine := by rw [sizeLine_eq]; exact (by decide : 1 ≤ 16777216)
  refine call_own F.excBase_ValueError (fun X => refsVE_contains X bm hbm) (X _ _ hC) (looks_findIn X T.iC) (fun self => bind_fn X self T.tI) h1 ?_
  refine init_ok (s := ⟨(hp.push (kdv_tup [v])).push (excO C hp.objs.size), g, dr, tk, os⟩) T (X.keeps k) (G.keeps k) hsu (B.keeps k) hbu (hlim.keeps k) hget hnx hroom fun h' tk' dx t1 L => ?_
  have old : ∀ b o, hp.get? b = some o → h'.get? b = some o := fun b o e => L.keep b o (Nat.ne_of_lt (Nat.lt_succ_of_lt (Heap.lt_size e))) (k b o e)
  have z : hp.objs.size + 1 + 1 ≤ dx := by
    have q := L.dbig
    first
      | (simpa only [Heap.size_push] using q)
      | exact q
  exact ⟨rfl, hq h' tk' (hp.objs.size + 1) dx ⟨old, Nat.le_succ _, ⟨_, _, L.obj, rfl, rfl, rfl, rfl⟩, Nat.le_trans (Nat.le_trans (Nat.le_succ _) (Nat.le_succ _)) z, L.dne, L.ns⟩⟩
end
theorem relO1 {f g : Str} {v : V} {v' : Value} (r : RelV v v') : RelO (List.lookup g [(f, v)]) (if g = f then some v' else none) := by
  by_cases h : g = f
  · subst h
    rw [if_pos rfl]
    have q : List.lookup g [(g, v)] = some v := by simp [List.lookup]
    rw [q]
    exact r
  · rw [if_neg h]
    have q1 : (g == f) = false := by simpa using h
    have q2 : List.lookup g [(f, v)] = none := by simp [List.lookup, q1]
    rw [q2]
    trivial
section
variable {X : Cx} {C fI : Addr} {f p msg qual x : Str}
/-- C(e) -/
def tMk (C : Addr) (f : Str) (ta : TA) : L2.St → Hp → XK → Prop := fun σ H Q => ta σ H fun vs H1 => ∃ v, vs = [v] ∧ ∀ d, H1 d = none → Q (.ref C) (some d) (upd H1 d (.xd [(f, v)]))
theorem pmk_sx {a : Expr} {ta : TA} {np pos : Pos} {k : Nat} (T : Tx X.prog X.K C fI f p msg qual) (gC : X.mg x = some (.ref C)) (hsu : X.mg "super" = none) (hr : Room k X.A) (ha : PA X [a] ta) (hg : Gl X x) (hdb : (x == ("__debug__" : Str)) = false)
    (he : starEach (a :: []) X.env = (false, eval a X.env) :: starEach [] X.env) (hpl : (backTo pos (starEach [] X.env)).any (·.1) = false := by rfl) : PMk X (.Call (.Name x np) [a] [] pos) (tMk C f ta) := by
  intro pins s σ H Q I h
  refine wpAny_Call_Name_kw (ld_glob I hg gC ?_ hdb)
  refine PySem.W.callWith_K (h₀ := X.base) I.ok.mod.kin T.ox.kC (thn (ha.run pos pins s σ H _ I h) fun us s1 hh => ?_) he hpl
  obtain ⟨vs, H1, I1, r1, v, ev, q1⟩ := hh
  subst ev
  refine ⟨I1.kIn, ?_⟩
  cases r1 with
  | cons rv rn =>
    rename_i v' us'
    cases rn
    obtain ⟨mb, b1, b2⟩ := I1.mod.blt
    have hlim := I1.nolimit
    have G1 := I1.mod.glob.keeps I1.bk
    have B1 := b1.keeps I1.bk
    obtain ⟨hp, g, dr, tk, os⟩ := s1
    refine wpAny_call (made_ok T I1.kIn G1 hsu B1 ((b2 _ (by decide)).trans (by decide +kernel)) hlim (by have := hr.dp; omega) fun h' tk' e d M => ?_)
    change MkP X pins σ Q (.ref e) ⟨h', g, dr, tk', os⟩
    obtain ⟨oe, fv, hoe, hc, hd, hdat, h1⟩ := M.obj
    obtain ⟨G', g1, g2⟩ := restrict h' fun b => decide (b ≠ e)
    have gk : ∀ b, b ≠ e → G'.get? b = h'.get? b := fun b hb => g1 b (decide_eq_true hb)
    have ge : G'.get? e = none := g2 e (by simp)
    have old : ∀ b o, hp.get? b = some o → G'.get? b = some o := fun b o q => (gk b (Nat.ne_of_lt (Nat.lt_of_lt_of_le (Heap.lt_size q) M.new))).trans (M.keep b o q)
    have ob : ObjOk X.prog X.w (upd H1 d (.xd [(f, v)])) G' d (.xd [(f, v)]) := ⟨_, M.ns.at (fun o q => (gk d M.dne).trans q), fun _ => relO1 rv⟩
    have J : Inv X pins σ (upd H1 d (.xd [(f, v)])) ⟨G', g, dr, tk', os⟩ := I1.laid (t' := tk') old M.dbig ob
    refine ⟨e, oe, fv, ⟨G', g, dr, tk', os⟩, _, .ref C, some d, rfl, J, fun b o q => ?_, ge, hoe, ⟨hc, hd⟩, hdat, h1, ?_, rfl, I1.bare, raises_own T.ox.exC T.ox.tyC, q1 d (I1.hok.fresh M.dbig)⟩
    · by_cases hb : b = e
      · have q' : G'.get? b = some o := q
        rw [hb, ge] at q'; cases q'
      · exact (gk b hb).symm.trans q
    · rw [upd_ne (Ne.symm M.dne)]
      exact I1.hok.fresh M.new
end
end Sx

set_option Elab.async false
set_option linter.all false
set_option maxRecDepth 100000
set_option maxHeartbeats 4000000
namespace Sx
open PySem PySem.W PySem.Calls PyProof.Rows PySem.HandSPX L2
/-- what a class must say, so that isinstance asks its errors rightly and its fields are read -/
structure IsC (K : Frag) (D : Addr) : Prop where
  cl : (clsIn K D).isSome = true
  hg : findIn K (.ref D) "__getattribute__" = some (some (.builtin "BaseException.__getattribute__"))
  hk : findIn K (.ref D) "__getattr__" = some none
  hs : subIn K (.ref D) (.type "BaseException") = some true
  hd : hasDictIn K D = true
  ha : findIn K (.ref D) "__class__" = some (some (.builtin "object.__class__"))
  hn : specialIn K (.builtin "object.__class__") "__get__" = some (some (.builtin "getset_descriptor.__get__"))
  ht : takesIn K (.builtin "object.__class__") = some true
  hm : mroIn K D (.type "object") = some true
/-- isinstance(e, c), e the error of the suite; its dict stands at dd -/
def rIsX (K : Frag) (D a dd : Addr) : List V → Hp → VK → Prop := fun xs H Q => ∃ (c : V) (cv : Value) (b : Bool) (fs : List (Str × V)), xs = [.ref a, c] ∧ (∀ u, RelV c u → u = cv) ∧ kitOne K (.ref D) cv = some b ∧ H dd = some (.xd fs) ∧ Q (.bl b) H
theorem call_isX {X : Cx} {a D dd : Addr} {oe : Obj} {pn : List (Addr × Obj)} (T : IsC X.K D) (hz : Zc (.ref D) (some dd) oe) (hf : ∃ vs, oe.data = .fields vs) : CallR (X.suite a ((a, oe) :: pn)) (.builtin "isinstance") (rIsX X.K D a dd) := by
  intro pins s σ H xs us Q I r h
  obtain ⟨c, cv, b, fs, rfl, hcv, e, hdd, q⟩ := h
  cases r with
  | cons rx rr =>
    cases rr with
    | cons rt rr =>
      cases rr
      cases rx
      have ec := hcv _ rt
      subst ec
      obtain ⟨hget, _⟩ := I.pin (a, oe) (List.mem_append.mpr (.inl List.mem_cons_self))
      obtain ⟨vs, hv⟩ := hf
      have hx : ObjOk X.prog X.w H s.heap dd (.xd fs) := I.hok dd _ hdd
      obtain ⟨mA, hns, hr⟩ := hx
      obtain ⟨od, ho, hl⟩ := lookIn_ns hns
      have J : InstAt s.heap a oe D (some od) := ⟨hget, hz.1, by unfold notCls; rw [hv] <;> rfl, by rw [hz.2]; exact ho⟩
      exact kia_one (kitx_exc T.cl T.hg T.hk T.hs T.ha T.hn T.ht T.hm) I.kIn J e (fun z => nomatch z) fun tk => ⟨.bl b, H, I.kept (t' := tk) fun _ _ z => z, rfl, q⟩
end Sx

set_option Elab.async false
set_option linter.all false
set_option maxRecDepth 100000
set_option maxHeartbeats 4000000
/-! isinstance(e, (A, B)) in a suite; repr -/
namespace Sx
open PySem PySem.W PySem.Calls PyProof.Rows PySem.HandSPX L2
/-- isinstance(e, (c, ..)), e the error of the suite; its dict stands at dd -/
def rIsXT (K : Frag) (D a dd : Addr) : List V → Hp → VK → Prop := fun xs H Q => ∃ (p : Addr) (cs : List V) (cvs : List Value) (b : Bool) (fs : List (Str × V)), xs = [.ref a, .ref p] ∧ SqT K H p cs ∧ (∀ us, Vals cs us → us = cvs) ∧ kitAny K (.ref D) cvs = some b ∧ H dd = some (.xd fs) ∧ Q (.bl b) H
theorem call_isXT {X : Cx} {a D dd : Addr} {oe : Obj} {pn : List (Addr × Obj)} (T : IsC X.K D) (hz : Zc (.ref D) (some dd) oe) (hf : ∃ vs, oe.data = .fields vs) : CallR (X.suite a ((a, oe) :: pn)) (.builtin "isinstance") (rIsXT X.K D a dd) := by
  intro pins s σ H xs us Q I r h
  obtain ⟨p, cs, cvs, b, fs, rfl, hp, hcv, e, hdd, q⟩ := h
  match r with
  | .cons rx (.cons rt .nil) =>
    cases rx
    cases rt
    obtain ⟨its, rv, ⟨o, ho, hc, n, hd⟩, _⟩ := I.tuple hp
    have ec := hcv _ rv
    subst ec
    have hget := (I.pin (a, oe) (List.mem_append.mpr (.inl List.mem_cons_self))).1
    obtain ⟨vs, hv⟩ := hf
    obtain ⟨mA, hns, hr⟩ := (I.hok dd _ hdd : ObjOk X.prog X.w H s.heap dd (.xd fs))
    obtain ⟨od, hod, hl⟩ := lookIn_ns hns
    have J : InstAt s.heap a oe D (some od) := ⟨hget, hz.1, by unfold notCls; rw [hv] <;> rfl, by rw [hz.2]; exact hod⟩
    have htp : s.heap.get? p = some ⟨.type "tuple", o.dict, .seq its.toArray n, o.slots⟩ := by rw [ho, ← hc, ← hd]
    exact kia_tup (kitx_exc T.cl T.hg T.hk T.hs T.ha T.hn T.ht T.hm) I.kIn J htp e (fun z => nomatch z) fun tk => ⟨.bl b, H, I.kept (t' := tk) fun _ _ z => z, rfl, q⟩
end Sx
namespace Sh
open PySem PySem.Spec PyProof.Rows L2
/-! ### what a value shows -/
/-- the table of the modules is known as a dict -/
def SysD (K : PySem.W.Frag) : Prop := ∃ o, K.lookup sysModules = some o ∧ o.cls = .type "dict"
def keyP : Key → PyData
  | .inl i => .int i
  | .inr x => .str x
mutual
def PDt (K : PySem.W.Frag) (H : Hp) : PyData → V → Prop
  | .none, v => v = .non
  | .bool b, v => v = .bl b
  | .int i, v => v = .int i
  | .str s, v => v = .str s
  | .list ds, v => ∃ a xs, v = .ref a ∧ SqL K H a xs ∧ PDts K H ds xs
  | .tuple ds, v => ∃ a xs, v = .ref a ∧ SqT K H a xs ∧ PDts K H ds xs
  | .dict kvs, v => ∃ a gs, v = .ref a ∧ H a = some (.dK gs) ∧ PDkv K H kvs gs
def PDts (K : PySem.W.Frag) (H : Hp) : List PyData → List V → Prop
  | [], vs => vs = []
  | d :: ds, vs => ∃ v r, vs = v :: r ∧ PDt K H d v ∧ PDts K H ds r
def PDkv (K : PySem.W.Frag) (H : Hp) : List (PyData × PyData) → List (Key × V) → Prop
  | [], gs => gs = []
  | (k, d) :: r, gs => ∃ q u t, gs = (q, u) :: t ∧ k = keyP q ∧ PDt K H d u ∧ PDkv K H r t
end
section
variable {X : Cx} {pins : List (Addr × Obj)} {σ : L2.St} {H : Hp} {s : Shared}
theorem key_reads {h : Heap} {q : Key} {v : Value} (e : keyIs q v = true) : Reads h v (keyP q) [] := by
  rcases keyIs_shape e with ⟨i, t, rfl, rfl⟩ | ⟨x, t, rfl, rfl⟩
  · exact .int i t
  · exact .str x t
theorem sys_at (I : Inv X pins σ H s) (Y : SysD X.K) {a : Addr} {o : Obj} (h : s.heap.get? a = some o) (hc : o.cls = .type "list") : sysModules ≠ a := fun e => by
  obtain ⟨o2, h2, h3⟩ := Y
  have h4 := I.kIn _ _ h2
  rw [e, h] at h4
  cases h4
  rw [hc] at h3
  injection h3 with h5
  exact absurd h5 (by decide)
mutual
theorem pdt_reads (I : Inv X pins σ H s) (Y : SysD X.K) : ∀ (d : PyData) (v : V) (u : Value), PDt X.K H d v → RelV v u → ∃ as, Reads s.heap u d as ∧ sysModules ∉ as
  | .none, v, u, h, r => by
    unfold PDt at h
    subst h
    cases r
    exact ⟨_, .none, by simp⟩
  | .bool b, v, u, h, r => by
    unfold PDt at h
    subst h
    cases r
    exact ⟨_, .bool _, by simp⟩
  | .int i, v, u, h, r => by
    unfold PDt at h
    subst h
    obtain ⟨t, rfl⟩ := r
    exact ⟨_, .int _ _, by simp⟩
  | .str x, v, u, h, r => by
    unfold PDt at h
    subst h
    obtain ⟨t, rfl⟩ := r
    exact ⟨_, .str _ _, by simp⟩
  | .list ds, v, u, h, r => by
    unfold PDt at h
    obtain ⟨a, xs, rfl, hs, h⟩ := h
    cases r
    obtain ⟨its, rv, ⟨o, n, ho, hc, _, hd⟩, _⟩ := I.list hs
    obtain ⟨as, ha, hn⟩ := pdts_reads I Y ds xs its h rv
    exact ⟨_, .list ho hc hd ha, by rw [List.mem_cons, not_or]; exact ⟨sys_at I Y ho hc, hn⟩⟩
  | .tuple ds, v, u, h, r => by
    unfold PDt at h
    obtain ⟨a, xs, rfl, hs, h⟩ := h
    cases r
    obtain ⟨its, rv, ⟨o, ho, hc, n, hd⟩, _⟩ := I.tuple hs
    obtain ⟨as, ha, hn⟩ := pdts_reads I Y ds xs its h rv
    exact ⟨_, .tuple ho hc hd ha, hn⟩
  | .dict kvs, v, u, h, r => by
    unfold PDt at h
    obtain ⟨a, gs, rfl, hs, h⟩ := h
    cases r
    obtain ⟨_, hne, vs, rv, o, es, ep, ho, hx, hd, _, hp, _⟩ := dk_of I.hok hs
    obtain ⟨as, bs, h1, h2, n1, n2⟩ := pdkv_reads I Y kvs gs vs es.toList h rv hp
    refine ⟨_, .dict ho hx.1 hd h1 h2, ?_⟩
    rw [List.mem_append, List.mem_cons, not_or, not_or]
    exact ⟨⟨fun e => by rw [← e] at hne; simp at hne, n1⟩, n2⟩
theorem pdts_reads (I : Inv X pins σ H s) (Y : SysD X.K) : ∀ (ds : List PyData) (vs : List V) (us : List Value), PDts X.K H ds vs → Vals vs us → ∃ as, ReadsAll s.heap us ds as ∧ sysModules ∉ as
  | [], vs, us, h, r => by
    unfold PDts at h
    subst h
    cases r
    exact ⟨_, .nil, by simp⟩
  | d :: ds, vs, us, h, r => by
    unfold PDts at h
    obtain ⟨v, q, rfl, h1, h2⟩ := h
    match r with
    | .cons r1 r2 =>
      obtain ⟨as, ha, n1⟩ := pdt_reads I Y d v _ h1 r1
      obtain ⟨bs, hb, n2⟩ := pdts_reads I Y ds q _ h2 r2
      exact ⟨_, .cons ha hb, by rw [List.mem_append, not_or]; exact ⟨n1, n2⟩⟩
theorem pdkv_reads (I : Inv X pins σ H s) (Y : SysD X.K) : ∀ (kvs : List (PyData × PyData)) (gs : List (Key × V)) (vs : List (Key × Value)) (es : List DictEntry), PDkv X.K H kvs gs → KV gs vs → Pairs (mixKind X.prog X.w) es vs →
    ∃ as bs, ReadsAll s.heap (es.map (·.key)) (kvs.map (·.1)) as ∧ ReadsAll s.heap (es.map (·.val)) (kvs.map (·.2)) bs ∧ sysModules ∉ as ∧ sysModules ∉ bs
  | [], gs, vs, es, h, r, p => by
    unfold PDkv at h
    subst h
    cases r
    cases p
    exact ⟨_, _, .nil, .nil, by simp, by simp⟩
  | (k, d) :: kvs, gs, vs, es, h, r, p => by
    unfold PDkv at h
    obtain ⟨q, u, t, rfl, rfl, h1, h2⟩ := h
    match r with
    | .cons (b := qv) ⟨rk, r1⟩ r2 =>
      match p with
      | .cons (e := en) p1 p2 p3 =>
        obtain ⟨bs1, hb1, n1⟩ := pdt_reads I Y d u _ h1 r1
        obtain ⟨as, bs, ha, hb, n2, n3⟩ := pdkv_reads I Y kvs t _ _ h2 r2 p3
        have rk' : q = qv.1 := rk
        have pk : keyIs q en.key = true := by rw [rk']; exact p1
        refine ⟨[] ++ as, bs1 ++ bs, .cons (key_reads pk) ha, .cons ?_ hb, n2, by rw [List.mem_append, not_or]; exact ⟨n1, n3⟩⟩
        show Reads s.heap en.val d bs1
        rw [p2]
        exact hb1
end
/-- repr(x) -/
def rRepr (K : PySem.W.Frag) : List V → Hp → VK → Prop := fun xs H Q => ∃ v d, xs = [v] ∧ PDt K H d v ∧ d.showable = true ∧ d.shown.length ≤ sizeLine ∧ d.depth ≤ 16 ∧ Q (.str d.shown) H
theorem call_repr_data {k : Nat} (r : Room k X.A) (Y : SysD X.K) : CallR X (.builtin "repr") (rRepr X.K) := by
  intro pins s σ H xs us Q I rv h
  obtain ⟨v, d, rfl, hd, hs, hz, hp, q⟩ := h
  match rv with
  | .cons (a := _) (b := u) rx .nil =>
    obtain ⟨as, ha, hn⟩ := pdt_reads I Y d v u hd rx
    have hu : X.A.units + (d.depth + 1) < cLine := by have := r.un; omega
    have nd : d.hasDict = true → sysModules ∉ as := fun _ => hn
    have done : ∀ h' u' tk, (∀ b o, s.heap.get? b = some o → h'.get? b = some o) → EP X pins σ Q (.str d.shown u') { s with heap := h', toks := tk } := fun h' u' tk kp => ⟨.str d.shown, H, I.kept (t' := tk) kp, ⟨_, rfl⟩, q⟩
    cases ha with
    | none => exact PySem.P.repr_of_none (done s.heap _ _ fun _ _ z => z)
    | bool b => exact PySem.P.repr_of_bool (done s.heap _ _ fun _ _ z => z)
    | int i t => exact PySem.P.repr_of_int (by simpa [PyData.showable] using hs) (done s.heap _ _ fun _ _ z => z)
    | str x t => exact PySem.P.repr_of_str (done s.heap _ _ fun _ _ z => z) hz
    | list h1 h2 h3 h4 => exact repr_of_reads' (.list h1 h2 h3 h4) hs nd r.gd hu (fun _ _ z => z) done hz
    | tuple h1 h2 h3 h4 => exact repr_of_reads' (.tuple h1 h2 h3 h4) hs nd r.gd hu (fun _ _ z => z) done hz
    | dict h1 h2 h3 h4 h5 => exact repr_of_reads' (.dict h1 h2 h3 h4 h5) hs nd r.gd hu (fun _ _ z => z) done hz
end
end Sh

set_option Elab.async false
set_option linter.all false
set_option maxRecDepth 100000
set_option maxHeartbeats 4000000
namespace Sh
open PySem PySem.W L2 PyProof.Rows
section
variable {X : Cx}
theorem call_listK : CallR X (.type "list") (rListK X) := by
  intro pins s σ H xs us Q I rv h
  obtain ⟨a, C, dx, fs, F, fi, ki, l, zs, b, rfl, ha, N, hl, hs, hq⟩ := h
  obtain ⟨u, rfl, ru⟩ := rv.one
  cases ru
  have hz := (seqK I hs).choose_spec.2.2
  refine callType_codes (Q₁ := fun obj s₁ => obj = .ref s.heap.objs.size ∧ s₁ = { s with heap := s.heap.push { cls := .type "list", data := .seq #[] } }) PySem.F.called_list (PySem.F.typeCall_list_1 _) PySem.F.entry_list_init
    (code_list_new _ ⟨rfl, rfl⟩) fun obj s₁ h₁ => ?_
  obtain ⟨rfl, rfl⟩ := h₁
  have hS : (s.heap.push { cls := .type "list", data := .seq #[] }).get? s.heap.objs.size = some { cls := .type "list", data := .seq #[] } := Heap.get?_push_size _ rfl
  refine ⟨⟨_, hS, rfl⟩, PySem.F.args_list_init_2 _ _, ?_⟩
  have fr : H s.heap.objs.size = none := I.hok.fresh (Nat.le_refl _)
  have I1 : Inv X pins σ (upd H s.heap.objs.size (.lst [])) { s with heap := s.heap.push { cls := .type "list", data := .seq #[] } } := I.lnew (its := []) (t' := s.toks) .nil (Nat.zero_le _)
  show wpAny _ _ (do let old ← Builtin.List.listItems (.ref s.heap.objs.size); Builtin.List.listUpdate (.ref s.heap.objs.size) (fun _ => #[]); letGo old.toList.reverse; Builtin.List.listExtendWith (.ref s.heap.objs.size) (.ref a) .none) _ _ _
  refine wpAny_bind ?_
  unfold Builtin.List.listItems
  refine wpAny_bind (wpAny_seqItems hS rfl (wpAny_pure ?_))
  show wpAny _ _ (updateSeq s.heap.objs.size (fun _ => #[]) >>= fun _ => letGo (#[] : Array Value).toList.reverse >>= fun _ => Builtin.List.listExtendWith (.ref s.heap.objs.size) (.ref a) .none) _ _ _
  refine wpAny_bind (wpAny_updateSeq hS rfl ?_)
  have I2 := I1.lset (f := fun _ => #[]) (its := []) (its' := []) (ys := []) (t' := s.toks) upd_same hS rfl .nil (Nat.zero_le _)
  rw [upd_upd] at I2
  refine wpAny_bind (wpAny_letGo ?_)
  exact extendK (A1 := X.A.in1) (Rs := wants (fun r s₂ => r = .none ∧ EP X pins σ Q (.ref s.heap.objs.size) s₂) X.xe) (Q := Q) rfl (N.r.mono (by omega : ki + 2 ≤ ki + 4)).in1.in1 N.r.hd N I2 I.sz fr ha hl hs hz
    fun s' I' => ⟨rfl, .ref s.heap.objs.size, _, I', rfl, hq _ fr⟩
end
/-! ### in the abstract heap -/
def ownListN (itf : Str → Option Str) (as : List AV) (A : AH) : Res AV := match as with
  | [.ref n] => (match A.ins? n with
    | some (c, fs) => (match itf c with
      | some F => (match fs.lookup F with
        | some (.ref m) => (match A.lst? m with
          | some xs => .ok (.ref A.length) (A ++ [.lst xs])
          | none => .bad)
        | some (.tup xs) => .ok (.ref A.length) (A ++ [.lst xs])
        | _ => .bad)
      | none => .bad)
    | none => .bad)
  | _ => .bad
def ItnOk (R : Rc) (X : Cx) (itf : Str → Option Str) : Prop := ∀ c F, itf c = some F → ∃ (C fi : Addr) (ki : Nat), R.cl c = some C ∧ ItN X C F fi ki
section
variable {R : Rc} {X : Cx} {W : WX} {ι : List Addr} {H : Hp} {A : AH}
theorem ownListN_s {itf : Str → Option Str} (hK : X.K = R.K) (hT : ItnOk R X itf) : SimC R (rListK X) (ownListN itf) := fun as xs H ι A Q E M r q => by
  unfold ownListN at q
  split at q
  · rename_i n
    split at q
    · rename_i c fs e1
      split at q
      · rename_i F e2
        obtain ⟨C, fi, ki, hC, N⟩ := hT c F e2
        obtain ⟨x, rfl, r1⟩ := vrs1 r
        obtain ⟨p, hp, rfl⟩ := vr_ref r1
        obtain ⟨C', dx, fs', h1, h2, h3⟩ := ins_rd M e1 hp
        have : C' = C := by rw [hC] at h1; exact (Option.some.inj h1).symm
        subst this
        split at q
        · rename_i m e3
          split at q
          · rename_i ys e4
            obtain ⟨y, h4, h5⟩ := h3.look' e3
            obtain ⟨l, hl, rfl⟩ := vr_ref h5
            obtain ⟨vs0, k1, k2⟩ := lst_rd M e4 hl
            exact ⟨p, C', dx, fs', F, fi, ki, l, vs0, false, rfl, h2, N, h4, .inl (.inl k1), q.lstNew M k2⟩
          · exact False.elim q
        · rename_i ys e3
          obtain ⟨y, h4, h5⟩ := h3.look' e3
          obtain ⟨l, vs0, rfl, k1, k2⟩ := vr_tup h5
          exact ⟨p, C', dx, fs', F, fi, ki, l, vs0, true, rfl, h2, N, h4, (by rw [hK]; exact k1 : SqT X.K H l vs0), q.lstNew M k2⟩
        · exact False.elim q
      · exact False.elim q
    · exact False.elim q
  · exact False.elim q
end
/-! ### repr -/
def datasP (f : AV → Option PyData) : List AV → Option (List PyData)
  | [] => some []
  | x :: r => match f x, datasP f r with
    | some d, some ds => some (d :: ds)
    | _, _ => none
def datasKv (f : AV → Option PyData) : List (Key × AV) → Option (List (PyData × PyData))
  | [] => some []
  | (k, x) :: r => match f x, datasKv f r with
    | some d, some ds => some ((keyP k, d) :: ds)
    | _, _ => none
def dataP : Nat → AH → AV → Option PyData
  | 0, _, _ => none
  | n + 1, A, v => match v with
    | .non => some .none
    | .bl b => some (.bool b)
    | .int i => some (.int i)
    | .str s => some (.str s)
    | .tup xs => (datasP (dataP n A) xs).map .tuple
    | .fl xs => (datasP (dataP n A) xs).map .list
    | .ref r => match A.lst? r with
      | some xs => (datasP (dataP n A) xs).map .list
      | none => (match A.dct? r with
        | some kvs => (datasKv (dataP n A) kvs).map .dict
        | none => none)
    | _ => none
def bRepr (as : List AV) (A : AH) : Res AV := match as with
  | [v] => (match dataP 8 A v with
    | some d => if d.showable = true ∧ d.shown.length ≤ sizeLine ∧ d.depth ≤ 16 then .ok (.str d.shown) A else .bad
    | none => .bad)
  | _ => .bad
section
variable {R : Rc} {X : Cx} {ι : List Addr} {H : Hp} {A : AH}
theorem datasP_pdt {f : AV → Option PyData} (hf : ∀ v d x, f v = some d → VR R ι H v x → PDt R.K H d x) : ∀ {xs : List AV} {ds : List PyData} {vs : List V}, datasP f xs = some ds → VRs R ι H xs vs → PDts R.K H ds vs
  | [], ds, vs, e, r => by
    cases e
    unfold VRs at r
    unfold PDts
    exact r
  | x :: xs, ds, vs, e, r => by
    unfold datasP at e
    split at e
    · rename_i d ds' e1 e2
      cases e
      unfold VRs at r
      obtain ⟨v, q, rfl, r1, r2⟩ := r
      unfold PDts
      exact ⟨v, q, rfl, hf _ _ _ e1 r1, datasP_pdt hf e2 r2⟩
    · cases e
theorem datasKv_pdt {f : AV → Option PyData} (hf : ∀ v d x, f v = some d → VR R ι H v x → PDt R.K H d x) : ∀ {kvs : List (Key × AV)} {ds : List (PyData × PyData)} {gs : List (Key × V)}, datasKv f kvs = some ds → KR R ι H kvs gs → PDkv R.K H ds gs
  | [], ds, gs, e, r => by
    cases e
    unfold KR at r
    unfold PDkv
    exact r
  | (k, x) :: kvs, ds, gs, e, r => by
    unfold datasKv at e
    split at e
    · rename_i d ds' e1 e2
      cases e
      unfold KR at r
      obtain ⟨v, q, rfl, r1, r2⟩ := r
      unfold PDkv
      exact ⟨k, v, q, rfl, rfl, hf _ _ _ e1 r1, datasKv_pdt hf e2 r2⟩
    · cases e
theorem data_pdt (M : Emb R ι A H) : ∀ (n : Nat) (v : AV) (d : PyData) (x : V), dataP n A v = some d → VR R ι H v x → PDt R.K H d x
  | 0, _, _, _, e, _ => by cases e
  | n + 1, v, d, x, e, r => by
    have ih := fun v d x => data_pdt M n v d x
    unfold dataP at e
    split at e
    · cases e; unfold VR at r; unfold PDt; exact r
    · cases e; unfold VR at r; unfold PDt; exact r
    · cases e; unfold VR at r; unfold PDt; exact r
    · cases e; unfold VR at r; unfold PDt; exact r
    · rename_i xs
      obtain ⟨ds, e1, rfl⟩ := Option.map_eq_some_iff.mp e
      obtain ⟨p, vs, rfl, h1, h2⟩ := vr_tup r
      unfold PDt
      exact ⟨p, vs, rfl, h1, datasP_pdt ih e1 h2⟩
    · rename_i xs
      obtain ⟨ds, e1, rfl⟩ := Option.map_eq_some_iff.mp e
      obtain ⟨p, vs, rfl, h1, h2⟩ := vr_fl r
      unfold PDt
      exact ⟨p, vs, rfl, h1.sq, datasP_pdt ih e1 h2⟩
    · rename_i m
      split at e
      · rename_i xs e0
        obtain ⟨ds, e1, rfl⟩ := Option.map_eq_some_iff.mp e
        obtain ⟨p, hp, rfl⟩ := vr_ref r
        obtain ⟨vs, h1, h2⟩ := lst_rd M e0 hp
        unfold PDt
        exact ⟨p, vs, rfl, SqL.of h1, datasP_pdt ih e1 h2⟩
      · split at e
        · rename_i kvs e0
          obtain ⟨ds, e1, rfl⟩ := Option.map_eq_some_iff.mp e
          obtain ⟨p, hp, rfl⟩ := vr_ref r
          obtain ⟨gs, h1, h2⟩ := dct_rd M e0 hp
          unfold PDt
          exact ⟨p, gs, rfl, h1, datasKv_pdt ih e1 h2⟩
        · cases e
    · cases e
theorem bRepr_s (hK : X.K = R.K) (Y : SysD R.K) {k : Nat} (r : Room k X.A) : ∃ t, CallR X (.builtin "repr") t ∧ SimC R t bRepr := ⟨_, call_repr_data r (by rw [hK]; exact Y), fun as xs H ι A Q E M rv q => by
  unfold bRepr at q
  split at q
  · rename_i v
    split at q
    · rename_i d e
      split at q
      · rename_i c
        obtain ⟨x, rfl, r1⟩ := vrs1 rv
        exact ⟨x, d, rfl, by rw [hK]; exact data_pdt M 8 v d x e r1, c.1, c.2.1, c.2.2, q.here M mk_str⟩
      · exact False.elim q
    · exact False.elim q
  · exact False.elim q⟩
end
/-! ### isinstance(e, (A, ..)) in a suite -/
def isxAll (tb : List ((Str × Str) × Bool)) (c : Str) : List Str → Option Bool
  | [] => some false
  | m :: ms => match tb.lookup (c, m), isxAll tb c ms with
    | some b, some b' => some (b || b')
    | _, _ => none
def eIsxT (tb : List ((Str × Str) × Bool)) (c : Str) (ms : List Str) : EF := fun _ A => match isxAll tb c ms with
  | some b => .ok (.bl b) A
  | none => .bad
def namesOf : List Expr → Option (List Str)
  | [] => some []
  | .Name m _ :: es => (namesOf es).map (m :: ·)
  | _ :: _ => none
end Sh

set_option Elab.async false
set_option linter.all false
set_option maxRecDepth 100000
set_option maxHeartbeats 4000000
namespace Sh
open PySem L2 PyProof.Rows

/-! ### the static context -/
def slotOf (N : List Str) (x : Str) : Option Nat := N.findIdx? (fun y => decide (y = x))
structure Cp where
  N : List Str
  sc : Scope
  k : Nat
  fnB : Str → Bool
  funs : List (Str × GF)
  cons : List (Str × AV)
  hot : Bool := false
  exs : List (Str × Str) := []
  cat : List ((Str × Str) × Bool) := []
  isx : List ((Str × Str) × Bool) := []
  flds : List Str := []
  top : Bool := true
  exv : Option (Str × Str × List (Str × AV)) := none
  noat : List (Str × Str) := []
  meths : List ((Str × Str) × GF) := []
  mkc : List Str := []
  own : List Pos := []
  cms : List ((Str × Str) × GF) := []
  itf : List (Str × Str) := []
  sms : List ((Str × Str) × GF) := []
  itn : List (Str × Str) := []
def isOwn (C : Cp) (p : Pos) : Bool := C.own.any fun q => decide (q = p)
def mkT (C : Cp) (c : Str) : Option GF := if C.mkc.contains c then C.meths.lookup (c, ("__init__" : Str)) else none
def bltNames : List Str := ["len", "int", "abs", "min", "max", "list", "tuple", "isinstance", "bool", "str", "dict", "range", "super", "ValueError", "reversed", "enumerate", "zip", "all", "any", "sorted", "set", "repr", "iter", "next", "ord", "chr"]
/-- built-in functions that are read where nothing is handled -/
def calmF (x : Str) : Bool := x == ("min" : Str) || x == ("max" : Str) || x == ("all" : Str) || x == ("any" : Str)
structure CxOk (R : Rc) (C : Cp) (X : Cx) (W : WX) : Prop where
  K : X.K = R.K
  w : X.w = R.w
  N : X.N = C.N
  sc : X.env.scope = C.sc
  kd : C.sc.kind = .function
  nd : C.N.Nodup
  calm : C.hot = false → X.calm = true
  room : C.hot = false → Room C.k X.A
  hu : X.A.units + 64 < cLine
  nxs : C.hot = false → R.xs = none
  nxv : C.hot = false → C.exv = none
  tk : Takes X W
  hp : PassesOwn (model X.prog X.w) X.A X.env X.xe
  fn : ∀ x, C.fnB x = true → X.fn x = true
  gd : GdOk R
  funs : ∀ x g, C.funs.lookup x = some g → ∃ f, FunAt R X C.k x g f
  cons : ∀ x v, C.cons.lookup x = some v → ∃ u y, X.mg x = some u ∧ RelV y u ∧ ∀ ι H, VR R ι H v y
  blt : ∀ x ∈ bltNames, X.mg x = none
  exs : ∀ x f, C.exs.lookup x = some f → ∃ Ca fI p msg qual, X.mg x = some (.ref Ca) ∧ R.cl x = some Ca ∧ Sx.Tx X.prog X.K Ca fI f p msg qual
  cat : ∀ c m b, C.cat.lookup (c, m) = some b → ∃ Cc Cm, R.cl c = some Cc ∧ X.mg m = some (.ref Cm) ∧ PySem.W.exmOne X.K (.ref Cc) (.ref Cm) = some b ∧ Sx.IsC X.K Cc ∧ ∀ f ∈ C.flds, PySem.W.findIn X.K (.ref Cc) f = some none
  isx : ∀ c m b, C.isx.lookup (c, m) = some b → ∃ Cc u y, R.cl c = some Cc ∧ (X.mg m = some u ∨ (X.mg m = none ∧ bootBuiltins m = some u)) ∧ RelV y u ∧ (∀ u', RelV y u' → u' = u) ∧ PySem.W.kitOne X.K (.ref Cc) u = some b
  exv : ∀ y c fs, C.exv = some (y, c, fs) → ∃ (X0 : Cx) (a : Addr) (oe : Obj) (cls : Value) (d : Option Addr) (pn : List (Addr × Obj)), X = X0.suite a ((a, oe) :: pn) ∧ Zc cls d oe ∧ (∃ vs, oe.data = .fields vs) ∧ (∃ (Ca dd : Addr) (fs' : List (Str × V)), R.cl c = some Ca ∧ cls = .ref Ca ∧ d = some dd ∧ Sx.IsC X.K Ca ∧ (∀ f ∈ C.flds, PySem.W.findIn X.K (.ref Ca) f = some none) ∧ ∀ ι H, R.J ι H → H dd = some (.xd fs') ∧ FR R ι H fs fs') ∧ (∃ i, slotOf C.N y = some i ∧ R.xs = some (i, .ref a))
  stk : C.hot = false → C.top = true → X.stack = X.env :: X.outer ∧ X.env.frame = some X.env.locals
  xsl : ∀ i x, R.xs = some (i, x) → ∃ y c fs, C.exv = some (y, c, fs) ∧ slotOf C.N y = some i
  fld : ∀ f, FldOk R X.K (fun c => C.noat.contains (c, f)) f
  meth : C.hot = false → ∀ m, MethOk R X (fun c => C.meths.lookup (c, m)) m
  made : C.hot = false → ∀ c g, C.mkc.contains c = true → C.meths.lookup (c, ("__init__" : Str)) = some g → ∃ (Ca f : Addr) (k : Nat), R.cl c = some Ca ∧ X.mg c = some (.ref Ca) ∧ KFacts R X Ca f g k
  cm : C.hot = false → ∀ m, CmOk R X (fun c => C.cms.lookup (c, m)) m
  it : C.hot = false → ItOk R X (fun c => C.itf.lookup c) (fun c => C.meths.lookup (c, ("__len__" : Str)))
  sm : C.hot = false → ∀ m, SmOk R X (fun c => C.sms.lookup (c, m)) m
  itn : C.hot = false → ItnOk R X (fun c => C.itn.lookup c)
  sys : SysD R.K

/-! ### small tests upon the text -/
def isStar : Expr → Bool
  | .Starred _ _ => true
  | _ => false
def isComp : Expr → Bool
  | .ListComp .. => true
  | .SetComp .. => true
  | .DictComp .. => true
  | _ => false
def isSetD : Expr → Bool
  | .Set .. => true
  | _ => false
def isSl : Expr → Bool
  | .Slice .. => true
  | _ => false
def superish : Expr → Bool
  | .Call (.Name _ _) [] [] _ => true
  | _ => false
def visB (sc : Scope) (x : Str) : Bool := match sc.names.lookup x with
  | some .local => true
  | some .cell => true
  | some .free => true
  | _ => false
def locB (C : Cp) (x : Str) : Bool := match C.sc.names.lookup x with
  | some .local => true
  | some .cell => C.fnB x
  | _ => false
def glB (sc : Scope) (x : Str) : Bool := decide (sc.names.lookup x = some .globalImplicit)
def okName (x : Str) : Bool := !(x == ("__debug__" : Str)) && !(x == ("__classdict__" : Str)) && !(x == ("__name__" : Str))
section
variable {R : Rc} {C : Cp} {X : Cx} {W : WX}
theorem slotOf_ok {N : List Str} {x : Str} {i : Nat} (h : slotOf N x = some i) : N[i]? = some x := by
  unfold slotOf at h
  rw [List.findIdx?_eq_some_iff_getElem] at h
  obtain ⟨hi, h1, _⟩ := h
  rw [List.getElem?_eq_getElem hi]
  exact congrArg some (of_decide_eq_true h1)
theorem visB_ok {sc : Scope} {x : Str} (h : visB sc x = true) : Vis sc x := by
  unfold visB at h
  split at h
  · exact .inl (by assumption)
  · exact .inr (.inl (by assumption))
  · exact .inr (.inr (by assumption))
  · cases h
theorem locB_ok (o : CxOk R C X W) {x : Str} (h : locB C x = true) : Loc X.env.scope x ∧ (X.fn x = true ∨ X.env.scope.names.lookup x = some .local) := by
  unfold locB at h
  rw [o.sc]
  split at h
  · rename_i e
    exact ⟨.inl e, .inr e⟩
  · rename_i e
    exact ⟨.inr e, .inl (o.fn x h)⟩
  · cases h
theorem glB_ok (o : CxOk R C X W) {x : Str} (h : glB C.sc x = true) : Gl X x := by
  show X.env.scope.names.lookup x = some .globalImplicit
  rw [o.sc]
  exact of_decide_eq_true h
theorem okName_ok {x : Str} (h : okName x = true) : (x == ("__debug__" : Str)) = false ∧ (x == ("__classdict__" : Str)) = false ∧ x ≠ "__name__" := by
  unfold okName at h
  simp only [Bool.and_eq_true, Bool.not_eq_true'] at h
  refine ⟨h.1.1, h.1.2, fun e => ?_⟩
  rw [e] at h
  simp at h
theorem star_cons {env : Env} {e : Expr} {es : List Expr} (h : isStar e = false) : starEach (e :: es) env = (false, eval e env) :: starEach es env := by
  cases e <;> first | rfl | cases h
theorem star_any {env : Env} {pos : Pos} : ∀ {es : List Expr}, es.all (fun e => !isStar e) = true → (backTo pos (starEach es env)).any (·.1) = false
  | [], _ => rfl
  | e :: es, h => by
    simp only [List.all_cons, Bool.and_eq_true, Bool.not_eq_true'] at h
    rw [star_cons h.1]
    show (false || (backTo pos (starEach es env)).any (·.1)) = false
    rw [star_any h.2]
    rfl
theorem star_all {env : Env} {pos : Pos} : ∀ {es : List Expr}, es.all (fun e => !isStar e) = true → (backTo pos (starEach es env)).all (fun x => !x.1) = true
  | [], _ => rfl
  | e :: es, h => by
    simp only [List.all_cons, Bool.and_eq_true, Bool.not_eq_true'] at h
    rw [star_cons h.1]
    show ((!false) && (backTo pos (starEach es env)).all (fun x => !x.1)) = true
    rw [star_all h.2]
    rfl
theorem swaps_no {e : Expr} {t : Option Expr} {l : Nat} {env : Env} (h : isComp e = false) : swapsWith e t l env = pure false := by
  cases e <;> first | rfl | cases h
theorem swaps_sub {e o i : Expr} {p : Pos} {l : Nat} {env : Env} : swapsWith e (some (.Subscript o i p)) l env = pure false := by
  cases e <;> rfl
theorem swaps_att {e o : Expr} {f : Str} {p : Pos} {l : Nat} {env : Env} : swapsWith e (some (.Attribute o f p)) l env = pure false := by
  cases e <;> rfl
theorem setIt_no {e : Expr} {env : Env} (h : isSetD e = false) (x : Value) : foldedSetIterable e env x = pure x := by
  cases e <;> first | rfl | cases h
theorem plainIx_no {e : Expr} (h : isSl e = false) : PlainIx e := fun o i => by
  cases e <;> first | rfl | cases h
theorem base_no {o : Expr} {m : Str} {env : Env} (h : superish o = false) : attributeBase o m env (eval o env) = eval o env := by
  cases o with
  | Call f args kws pos =>
    cases f with
    | Name id p =>
      cases args with
      | nil =>
        cases kws with
        | nil => cases h
        | cons => rfl
      | cons => rfl
    | _ => rfl
  | _ => rfl
end

/-! ### truth -/
def truA (a : AV) (A : AH) : Option Bool := match a with
  | .non => some false
  | .bl b => some b
  | .int i => some (i != 0)
  | .str x => if x.length ≤ sizeLine then some ((x.length : Int) != 0) else none
  | .tup xs => some (!xs.isEmpty)
  | a => match sq? a A with
    | some xs => some (!xs.isEmpty)
    | none => match a with
      | .ref n => (A.dct? n).map fun kvs => !kvs.isEmpty
      | _ => none
def tTruF (f : EF) : TF := fun ℓ A => (f ℓ A).bind fun a A => match truA a A with | some k => .ok k A | none => .bad
theorem VRs.isEmpty {R : Rc} {ι : List Addr} {H : Hp} {as : List AV} {xs : List V} (h : VRs R ι H as xs) : (!as.isEmpty) = !xs.isEmpty := by
  cases as with
  | nil => rw [vrs0 h]; rfl
  | cons a as => unfold VRs at h; obtain ⟨v, r, rfl, _⟩ := h; rfl
theorem KR.isEmpty {R : Rc} {ι : List Addr} {H : Hp} {as : List (Key × AV)} {xs : List (Key × V)} (h : KR R ι H as xs) : (!as.isEmpty) = !xs.isEmpty := by
  cases as with
  | nil => unfold KR at h; rw [h]; rfl
  | cons a as => obtain ⟨f, a⟩ := a; unfold KR at h; obtain ⟨v, r, rfl, _⟩ := h; rfl
theorem truA_ok {R : Rc} {ι : List Addr} {H : Hp} {A : AH} {a : AV} {x : V} {k : Bool} (M : Emb R ι A H) (h : truA a A = some k) (r : VR R ι H a x) : TruV R.K x H k := by
  unfold truA at h
  split at h
  · cases h; rw [vr_non r]; rfl
  · cases h; rw [vr_bl r]; rfl
  · cases h; rw [vr_int r]; rfl
  · split at h
    · rename_i hl
      cases h; rw [vr_str r]; exact ⟨hl, rfl⟩
    · cases h
  · cases h
    obtain ⟨p, vs, rfl, h1, v1⟩ := vr_tup r
    exact .inr (.inl ⟨vs, h1, v1.isEmpty⟩)
  · split at h
    · rename_i xs e
      cases h
      obtain ⟨p, vs, rfl, h1, v1⟩ := sq_rd M e r
      exact .inl ⟨vs, h1, v1.isEmpty⟩
    · split at h
      · rename_i n
        obtain ⟨p, hp, rfl⟩ := vr_ref r
        cases e : A.dct? _ with
        | none => rw [e] at h; cases h
        | some kvs =>
          rw [e] at h
          cases h
          obtain ⟨vs, h1, v1⟩ := dct_rd M e hp
          exact .inr (.inr ⟨vs, h1, v1.isEmpty⟩)
      · cases h
theorem sim_tru {R : Rc} {X : Cx} {W : WX} {ta : TE} {fa : EF} (hK : X.K = R.K) (ha : Sim R (VR R) W ta fa) : Sim R eqR W (fun σ H Q => ta σ H fun x H' => ∃ k, TruV X.K x H' k ∧ Q k H') (tTruF fa) := fun σ ℓ H ι A Q L M q =>
  ha σ ℓ H ι A _ L M (q.bind fun a A1 ι1 H1 x U1 M1 v1 q1 => by
    split at q1
    · rename_i k e
      exact ⟨k, by rw [hK]; exact truA_ok M1 e v1, q1.here M1 rfl⟩
    · exact False.elim q1)
def plainT : Expr → Bool
  | .UnaryOp .Not _ _ => false
  | .BoolOp .. => false
  | .IfExp .. => false
  | .Compare .. => false
  | _ => true
theorem plainT_ok {e : Expr} {env : Env} (h : plainT e = true) (whole : Sem Value) : isTrue e env whole = (do let v ← whole; standAt e.pos; holding [v] (truthy v)) := by
  cases e with
  | UnaryOp op x p => cases op <;> first | rfl | cases h
  | BoolOp => cases h
  | IfExp => cases h
  | Compare => cases h
  | _ => rfl

/-! ### chains -/
def eChain (g h : AV → AV → AH → Res AV) (f1 f2 f3 : EF) : EF := fun ℓ A => (f1 ℓ A).bind fun a A => (f2 ℓ A).bind fun b A => (g a b A).bind fun z A => match z with
  | .bl k => if k then (f3 ℓ A).bind fun c A => h b c A else .ok (.bl false) A
  | _ => .bad
theorem sim_chain {R : Rc} {W : WX} {r r' : R2} {g h : AV → AV → AH → Res AV} {ta tb tc : TE} {fa fb fc : EF} (hr : SimO R r g) (hr' : SimO R r' h) (ha : Sim R (VR R) W ta fa) (hb : Sim R (VR R) W tb fb) (hc : Sim R (VR R) W tc fc) :
    Sim R (VR R) W (tChain r r' ta tb tc) (eChain g h fa fb fc) := fun σ ℓ H ι A Q L M q =>
  ha σ ℓ H ι A _ L M (q.bind fun a1 A1 ι1 H1 x U1 M1 v1 q1 => hb σ ℓ H1 ι1 A1 _ (L.up U1) M1 (q1.bind fun a2 A2 ι2 H2 y U2 M2 v2 q2 => by
    refine hr _ _ _ _ _ _ _ _ (fun c d H' => W c d σ H') M2 (v1.up U2) v2 (q2.bind (rel := VR R) fun z A3 ι3 H3 w U3 M3 v3 q3 => ?_)
    cases z with
    | bl k =>
      refine ⟨k, vr_bl v3, ?_⟩
      cases k with
      | true => exact hc σ ℓ H3 ι3 A3 _ (((L.up U1).up U2).up U3) M3 (q3.bind fun a4 A4 ι4 H4 w4 U4 M4 v4 q4 => hr' _ _ _ _ _ _ _ _ _ M4 ((v2.up U3).up U4) v4 q4)
      | false => exact q3.here M3 mk_bl
    | _ => exact False.elim q3))

/-! ### the tables -/
def binF : Operator → Option (AV → AV → AH → Res AV)
  | .Add => some opAdd
  | .Sub => some opSub
  | .Mult => some opMul
  | .FloorDiv => some opFdiv
  | .Mod => some opMod
  | .Pow => some opPow
  | .BitAnd => some opAnd
  | .BitOr => some opOr
  | .BitXor => some opXor
  | _ => none
def cmpF : CmpOp → AV → AV → AH → Res AV
  | .Eq => cEq
  | .NotEq => cNe
  | .Lt => cmpI fun i j => decide (i < j)
  | .LtE => cmpI fun i j => decide (i ≤ j)
  | .Gt => cmpI fun i j => decide (j < i)
  | .GtE => cmpI fun i j => decide (j ≤ i)
  | .Is => cIs
  | .IsNot => cIsNot
  | .In => cIn
  | .NotIn => cNotIn
def uNeg (a : AV) (A : AH) : Res AV := match a with
  | .int i => .ok (.int (-i)) A
  | _ => .bad
def bfun (x : Str) : Option (List AV → AH → Res AV) :=
  if x = "len" then some bLen else if x = "int" then some bInt else if x = "abs" then some bAbs else if x = "min" then some bMin else if x = "max" then some bMax
  else if x = "list" then some bList else if x = "tuple" then some bTuple else if x = "isinstance" then some bIsi else if x = "all" then some bAll else if x = "any" then some bAny else if x = "str" then some bStr else none
def btyp (x : Str) : Option String :=
  if x = "int" then some "int" else if x = "bool" then some "bool" else if x = "str" then some "str" else if x = "list" then some "list" else if x = "tuple" then some "tuple" else if x = "dict" then some "dict" else none
def bmeth (m : Str) : Option (RT × (AV → List AV → AH → Res AV)) :=
  if m = "append" then some (.list, mAppend) else if m = "extend" then some (.list, mExtend) else if m = "pop" then some (.list, mPop) else if m = "insert" then some (.list, mInsert) else if m = "index" then some (.list, mIndex) else if m = "count" then some (.list, mCount) else if m = "join" then some (.str, mJoin) else if m = "find" then some (.str, mFind) else if m = "split" then some (.str, mSplit) else if m = "strip" then some (.str, mStrip) else if m = "lstrip" then some (.str, mLstrip) else none
def eCB (g : List AV → AH → Res AV) (f : AF) : EF := fun ℓ A => (f ℓ A).bind g
section
variable {R : Rc} {C : Cp} {X : Cx} {W : WX}
theorem binF_ok (o : CxOk R C X W) {op : Operator} {g : AV → AV → AH → Res AV} (h : binF op = some g) : OpS R X (binaryOp op) g := by
  cases op <;> simp only [binF] at h <;> cases h <;> first | exact op_add_s o.K | exact op_sub_s | exact op_mul_s | exact op_mod_s | exact op_pow_s | exact op_fdiv_s | exact op_and_s | exact op_or_s | exact op_xor_s
theorem cmpF_ok (o : CxOk R C X W) (op : CmpOp) : OpS R X (compareOp op) (cmpF op) := by
  cases op
  · exact op_eq_s o.K o.hu
  · exact op_ne_s o.K o.hu
  · exact op_lt_s
  · exact op_le_s
  · exact op_gt_s
  · exact op_ge_s
  · exact op_is_s
  · exact op_isNot_s
  · exact op_in_s o.K o.hu
  · exact op_notIn_s o.K o.hu
theorem uNeg_s : SimU R (rU fun i => .int (-i)) uNeg := fun a x H ι A Q E M r q => by
  cases a with
  | int i => exact ⟨i, vr_int r, q.here M mk_int⟩
  | _ => exact False.elim q
theorem sim_cb {r : List V → Hp → VK → Prop} {g : List AV → AH → Res AV} {t : TA} {f : AF} (hr : SimC R r g) (h : Sim R (VRs R) W t f) : Sim R (VR R) W (tCB r t) (eCB g f) := fun σ ℓ H ι A Q L M q =>
  h σ ℓ H ι A _ L M (q.bind fun as A1 ι1 H1 xs U1 M1 v1 q1 => hr _ _ _ _ _ _ _ M1 v1 q1)
theorem bfun_ok (o : CxOk R C X W) {x : Str} {g : List AV → AH → Res AV} (h : bfun x = some g) (hm : C.hot = false ∨ calmF x = false) :
    (∃ id r, X.mg x = none ∧ bootBuiltins x = some (.builtin id) ∧ CallR X (.builtin id) r ∧ SimC R r g) ∨ (∃ T r, X.mg x = none ∧ bootBuiltins x = some (.type T) ∧ CallR X (.type T) r ∧ SimC R r g) := by
  unfold bfun at h
  split at h
  · rename_i e; subst e; cases h
    obtain ⟨r, h1, h2⟩ := bLen_s (R := R) (X := X) o.K o.w o.gd
    exact .inl ⟨_, r, o.blt _ (by decide +kernel), by decide +kernel, h1, h2⟩
  split at h
  · rename_i e; subst e; cases h
    obtain ⟨r, h1, h2⟩ := bInt_s (R := R) (X := X)
    exact .inr ⟨_, r, o.blt _ (by decide +kernel), by decide +kernel, h1, h2⟩
  split at h
  · rename_i e; subst e; cases h
    obtain ⟨r, h1, h2⟩ := bAbs_s (R := R) (X := X)
    exact .inl ⟨_, r, o.blt _ (by decide +kernel), by decide +kernel, h1, h2⟩
  split at h
  · rename_i e; subst e; cases h
    obtain ⟨r, h1, h2⟩ := bMin_s (R := R) (X := X) o.K (o.calm (hm.elim id fun z => (by cases z)))
    exact .inl ⟨_, r, o.blt _ (by decide +kernel), by decide +kernel, h1, h2⟩
  split at h
  · rename_i e; subst e; cases h
    obtain ⟨r, h1, h2⟩ := bMax_s (R := R) (X := X) o.K (o.calm (hm.elim id fun z => (by cases z)))
    exact .inl ⟨_, r, o.blt _ (by decide +kernel), by decide +kernel, h1, h2⟩
  split at h
  · rename_i e; subst e; cases h
    obtain ⟨r, h1, h2⟩ := bList_s (R := R) (X := X) o.K
    exact .inr ⟨_, r, o.blt _ (by decide +kernel), by decide +kernel, h1, h2⟩
  split at h
  · rename_i e; subst e; cases h
    obtain ⟨r, h1, h2⟩ := bTuple_s (R := R) (X := X) o.K
    exact .inr ⟨_, r, o.blt _ (by decide +kernel), by decide +kernel, h1, h2⟩
  split at h
  · rename_i e; subst e; cases h
    obtain ⟨r, h1, h2⟩ := bIsi_s (R := R) (X := X) o.K o.gd
    exact .inl ⟨_, r, o.blt _ (by decide +kernel), by decide +kernel, h1, h2⟩
  split at h
  · rename_i e; subst e; cases h
    obtain ⟨r, h1, h2⟩ := bAll_s (R := R) (X := X) o.K (o.calm (hm.elim id fun z => (by cases z)))
    exact .inl ⟨_, r, o.blt _ (by decide +kernel), by decide +kernel, h1, h2⟩
  split at h
  · rename_i e; subst e; cases h
    obtain ⟨r, h1, h2⟩ := bAny_s (R := R) (X := X) o.K (o.calm (hm.elim id fun z => (by cases z)))
    exact .inl ⟨_, r, o.blt _ (by decide +kernel), by decide +kernel, h1, h2⟩
  split at h
  · rename_i e; subst e; cases h
    obtain ⟨r, h1, h2⟩ := bStr_s (R := R) (X := X)
    exact .inr ⟨_, r, o.blt _ (by decide +kernel), by decide +kernel, h1, h2⟩
  · cases h
theorem btyp_ok (o : CxOk R C X W) {x : Str} {T : String} (h : btyp x = some T) : X.mg x = none ∧ bootBuiltins x = some (.type T) := by
  unfold btyp at h
  split at h
  · rename_i e; subst e; cases h; exact ⟨o.blt _ (by decide +kernel), by decide +kernel⟩
  split at h
  · rename_i e; subst e; cases h; exact ⟨o.blt _ (by decide +kernel), by decide +kernel⟩
  split at h
  · rename_i e; subst e; cases h; exact ⟨o.blt _ (by decide +kernel), by decide +kernel⟩
  split at h
  · rename_i e; subst e; cases h; exact ⟨o.blt _ (by decide +kernel), by decide +kernel⟩
  split at h
  · rename_i e; subst e; cases h; exact ⟨o.blt _ (by decide +kernel), by decide +kernel⟩
  split at h
  · rename_i e; subst e; cases h; exact ⟨o.blt _ (by decide +kernel), by decide +kernel⟩
  · cases h
theorem bmeth_ok (o : CxOk R C X W) {m : Str} {T : RT} {g : AV → List AV → AH → Res AV} (h : bmeth m = some (T, g)) :
    ∃ id r, PlainAttrs T.name ∧ Slot T.name m id ∧ typeOf (.builtin id) = pure (.type "method_descriptor") ∧ MtR X id r ∧ SimM R r g := by
  unfold bmeth at h
  split at h
  · rename_i e; subst e; cases h
    exact ⟨_, _, PySem.F.plainAttrs_list, PySem.F.slot_list_append, PySem.F.type_list_append, mt_append, mAppend_s⟩
  split at h
  · rename_i e; subst e; cases h
    exact ⟨_, _, PySem.F.plainAttrs_list, PySem.F.slot_list_extend, PySem.F.type_list_extend, mt_extend, mExtend_s⟩
  split at h
  · rename_i e; subst e; cases h
    exact ⟨_, _, PySem.F.plainAttrs_list, PySem.F.slot_list_pop, PySem.F.type_list_pop, MtR.or (X := X) mt_pop mt_popAt, mPop_s⟩
  split at h
  · rename_i e; subst e; cases h
    exact ⟨_, _, PySem.F.plainAttrs_list, PySem.F.slot_list_insert, PySem.F.type_list_insert, mt_insert, mInsert_s⟩
  split at h
  · rename_i e; subst e; cases h
    exact ⟨_, _, PySem.F.plainAttrs_list, PySem.F.slot_list_index, PySem.F.type_list_index, mt_index, mIndex_s o.K⟩
  split at h
  · rename_i e; subst e; cases h
    exact ⟨_, _, PySem.F.plainAttrs_list, PySem.F.slot_list_count, PySem.F.type_list_count, mt_countF, mCount_s o.K⟩
  split at h
  · rename_i e; subst e; cases h
    exact ⟨_, _, PySem.F.plainAttrs_str, PySem.F.slot_str_join, PySem.F.type_str_join, mt_join, mJoin_s o.K⟩
  split at h
  · rename_i e; subst e; cases h
    exact ⟨_, _, PySem.F.plainAttrs_str, PySem.F.slot_str_find, PySem.F.type_str_find, MtR.or (X := X) mt_find mt_find3, mFind_s⟩
  split at h
  · rename_i e; subst e; cases h
    exact ⟨_, _, PySem.F.plainAttrs_str, PySem.F.slot_str_split, PySem.F.type_str_split, mt_split, mSplit_s⟩
  split at h
  · rename_i e; subst e; cases h
    exact ⟨_, _, PySem.F.plainAttrs_str, PySem.F.slot_str_strip, PySem.F.type_str_strip, MtR.or (X := X) mt_strip mt_stripChars, mStrip_s⟩
  split at h
  · rename_i e; subst e; cases h
    exact ⟨_, _, PySem.F.plainAttrs_str, PySem.F.slot_str_lstrip, PySem.F.type_str_lstrip, MtR.or (X := X) mt_lstrip mt_lstripChars, mLstrip_s⟩
  · cases h
end
end Sh

set_option Elab.async false
set_option linter.all false
set_option maxRecDepth 100000
set_option maxHeartbeats 4000000
namespace Sh
open PySem L2 PyProof.Rows

/-! ### the readings of a text -/
def cArgs (rec : Expr → Option EF) : List Expr → Option AF
  | [] => some aNil
  | e :: es => if isStar e then none else match rec e, cArgs rec es with
    | some f, some g => some (aCons f g)
    | _, _ => none
def cBool (rec : Expr → Option EF) (op : BoolOp) : List Expr → Option EF
  | [] => none
  | [e] => rec e
  | e :: es => match rec e, cBool rec op es with
    | some f, some g => some (match op with | .And => eAndF f g | .Or => eOrF f g)
    | _, _ => none
def cBoolT (rec : Expr → Option TF) (op : BoolOp) : List Expr → Option TF
  | [] => none
  | [e] => rec e
  | e :: es => match rec e, cBoolT rec op es with
    | some f, some g => some (match op with | .And => tAndF f g | .Or => tOrF f g)
    | _, _ => none
def cPairs (rec : Expr → Option EF) : List (Option Expr) → List Expr → Option (List (EF × EF))
  | [], [] => some []
  | some k :: ks, v :: vs => match rec k, rec v, cPairs rec ks vs with
    | some f, some g, some r => some ((f, g) :: r)
    | _, _, _ => none
  | _, _ => none
def cOpt (rec : Expr → Option EF) : Option Expr → Option OF
  | none => some oNone
  | some e => (rec e).map oSome
def cConst : Const → Option AV
  | .int i => some (.int i)
  | .bool b => some (.bl b)
  | .none => some .non
  | .str x => some (.str x)
  | _ => none
def isExv (C : Cp) (x : Str) : Bool := match C.exv with
  | some (y, _, _) => decide (y = x)
  | none => false
def eFld (fs : List (Str × AV)) (f : Str) : EF := fun _ A => match fs.lookup f with
  | some v => .ok v A
  | none => .bad
def eIsx (tb : List ((Str × Str) × Bool)) (c m : Str) : EF := fun _ A => match tb.lookup (c, m) with
  | some b => .ok (.bl b) A
  | none => .bad
def sBad : SF := fun _ _ => .bad
def sRaise (x f : Str) (fe : EF) : SF := fun ℓ A => (fe ℓ A).toS ℓ fun v A => .exc x [(f, v)] ℓ A
def sTry (fb : SF) (i : Nat) (cat : Str → Option Bool) (fs : Str → List (Str × AV) → SF) : SF := fun ℓ A => match fb ℓ A with
  | .exc c xs ℓ' A' => match cat c with
    | some true => if i < ℓ'.length then (match fs c xs (ℓ'.set i none) A' with
      | .nx ℓ2 A2 => .nx (ℓ2.set i none) A2
      | .bk ℓ2 A2 => .bk (ℓ2.set i none) A2
      | .ct ℓ2 A2 => .ct (ℓ2.set i none) A2
      | .rt v A2 => .rt v A2
      | _ => .bad) else .bad
    | some false => .exc c xs ℓ' A'
    | none => .bad
  | r => r
/-- the context of an except suite -/
def Cp.su (C : Cp) (y c : Str) (fs : List (Str × AV)) : Cp := { C with hot := true, top := false, exv := some (y, c, fs), exs := [], funs := [], cat := [] }
def cName (C : Cp) (x : Str) : Option EF :=
  if okName x && !isExv C x then
    if visB C.sc x then (slotOf C.N x).map eVar
    else if glB C.sc x then match C.cons.lookup x with
      | some v => some (eC v)
      | none => (btyp x).map fun T => eC (.ty T)
    else none
  else none
/-! ### tuple targets: names -/
def cNames (C : Cp) : List Expr → Option (List Nat)
  | [] => some []
  | .Name x _ :: es => if locB C x && !isExv C x then match slotOf C.N x, cNames C es with
      | some i, some is => some (i :: is)
      | _, _ => none
    else none
  | _ => none
def isTupE : Expr → Bool
  | .Tuple .. => true
  | _ => false
def cTarget (C : Cp) : Expr → Option (Nat × GF1)
  | .Name x _ => if locB C x && !isExv C x then (slotOf C.N x).map fun i => (i, gNm i) else none
  | _ => none
def cIter (C : Cp) (rec : Expr → Option EF) (e : Expr) : Option IF := match e with
  | .Call (.Name x _) [a] [] _ => if x = "range" ∧ glB C.sc x = true then (if isStar a then none else (rec a).map fun f => iRange (aCons f aNil)) else if x = "reversed" ∧ glB C.sc x = true then (if isStar a then none else (rec a).map iRevF) else (rec e).map iVal
  | .Call (.Name x _) [a, b] [] _ => if x = "range" ∧ glB C.sc x = true then (if isStar a || isStar b then none else match rec a, rec b with
      | some f, some g => some (iRange (aCons f (aCons g aNil)))
      | _, _ => none) else (rec e).map iVal
  | e => (rec e).map iVal
def cEnum (C : Cp) (rec : Expr → Option EF) : Expr → Option IF
  | .Call (.Name x _) [a] [] _ => if x = "enumerate" ∧ glB C.sc x = true ∧ isStar a = false then (rec a).map iEnumF else none
  | .Call (.Name x _) [a, b] [] _ => if x = "zip" ∧ glB C.sc x = true ∧ isStar a = false ∧ isStar b = false then (match rec a, rec b with
      | some f, some g => some (iZipF f g)
      | _, _ => none) else none
  | _ => none
def cIterT (C : Cp) (rec : Expr → Option EF) (tg e : Expr) : Option IF := if isTupE tg = true then (match cEnum C rec e with
    | some it => some it
    | none => cIter C rec e) else cIter C rec e
def cTargT (C : Cp) : Expr → Option (List Nat × GF1)
  | .Tuple es _ _ => (cNames C es).map fun is => (is, gTn is)
  | e => (cTarget C e).map fun p => ([p.1], p.2)
/-- the names of a comprehension's block that are its own, with their slots -/
def ownOf (N : List Str) (scope : Scope) : List (Str × Nat) := scope.names.filterMap fun y => match y.2 with
  | .local => (slotOf N y.1).map fun i => (y.1, i)
  | .cell => (slotOf N y.1).map fun i => (y.1, i)
  | _ => none
def Cp.blk (C : Cp) (scope : Scope) : Cp := { C with top := false, exv := none, exs := [], cat := [], isx := [], sc := relS scope C.sc, fnB := fun x => scope.names.lookup x == some .cell }
/-- isinstance(e, D), e the error of the suite -/
def isExcTest (C : Cp) (x : Str) (es : List Expr) : Bool := decide (x = "isinstance") && match es with
  | [.Name y _, .Name _ _] => isExv C y
  | _ => false
def excTest (C : Cp) (es : List Expr) : Option EF := match C.exv, es with
  | some (z, c, _), [.Name y _, .Name m _] => if z = y ∧ glB C.sc "isinstance" = true ∧ visB C.sc y = true ∧ glB C.sc m = true ∧ okName m = true ∧ okName y = true then some (eIsx C.isx c m) else none
  | _, _ => none
/-- further forms -/
def compJ (rec : Cp → Expr → Option EF) (C : Cp) (e : Expr) : Option EF := match e with
  | .Call (.Attribute o m apos) [.Call (.Name r p2) [a] [] pos2] [] cpos => if m = "join" ∧ r = "reversed" ∧ C.hot = false ∧ superish o = false ∧ (apos.endLine == cpos.line) = true ∧ glB C.sc "reversed" = true ∧ isStar a = false then match rec C o, rec C a with
      | some f, some g => some (eJoinRev f g)
      | _, _ => none
    else none
  | _ => none
/-- instances -/
def compI (rec : Cp → Expr → Option EF) (C : Cp) (e : Expr) : Option EF := match e with
  | .Attribute o f _ => if superish o || !(C.noat.any fun q => q.2 == f) then none else (rec C o).map (eFldG (fun c => C.noat.contains (c, f)) f)
  | .Call (.Name x _) es [] _ => if C.mkc.contains x && (!C.hot && (glB C.sc x && okName x)) then match C.meths.lookup (x, ("__init__" : Str)), cArgs (rec C) es with
      | some g, some fa => some (eMake x g fa)
      | _, _ => none
    else none
  | .Call (.Attribute o m apos) es [] cpos => if !C.hot && (!superish o && ((apos.endLine == cpos.line) && (decide (es.length < 29) && ((C.meths.any fun q => q.1.2 == m) && (bmeth m).isNone)))) then match rec C o, cArgs (rec C) es with
      | some fo, some fa => some (eMeth (fun c => C.meths.lookup (c, m)) m fo fa)
      | _, _ => none
    else none
  | _ => none
/-- d.get(k), d.get(k, x) -/
def cmpG (C : Cp) (op : CmpOp) (b : Expr) : AV → AV → AH → Res AV := match op, b with
  | .In, .Name g _ => (match C.cons.lookup g with | some (.gd _ _) => cInD | _ => cIn)
  | .NotIn, .Name g _ => (match C.cons.lookup g with | some (.gd _ _) => cNotInD | _ => cNotIn)
  | op, _ => cmpF op
def compK (rec : Cp → Expr → Option EF) (C : Cp) (e : Expr) : Option EF := match e with
  | .Call (.Name r p1) [.Call (.Name r2 p2) [a] [] pos2] [] pos1 => if r = "sorted" ∧ r2 = "set" ∧ C.hot = false ∧ glB C.sc "sorted" = true ∧ glB C.sc "set" = true ∧ isStar a = false then (rec C a).map eSortSet else none
  | .Call (.Attribute o m apos) [a] [] cpos => if m = "get" ∧ superish o = false ∧ (apos.endLine == cpos.line) = true ∧ isStar a = false then match rec C o, rec C a with
      | some f, some g => some (eGet1 f g)
      | _, _ => none
    else none
  | .Call (.Attribute o m apos) [a, b] [] cpos => if m = "get" ∧ superish o = false ∧ (apos.endLine == cpos.line) = true ∧ isStar a = false ∧ isStar b = false then match rec C o, rec C a, rec C b with
      | some f, some g, some h => some (eGet2 f g h)
      | _, _, _ => none
    else none
  | _ => none
/-- own operators, at the places that are told -/
def compO (rec : Cp → Expr → Option EF) (C : Cp) (e : Expr) : Option EF := match e with
  | .Compare a [.Eq] [b] pos => if isOwn C pos && (!C.hot && !(behindInMarks .Eq b)) then match rec C a, rec C b with
      | some f, some g => some (eOp (ownEq fun c => C.meths.lookup (c, ("__eq__" : Str))) f g)
      | _, _ => none
    else none
  | .Subscript a b pos => if isOwn C pos && (!C.hot && !(isSl b)) then match rec C a, rec C b with
      | some f, some g => some (eOp (ownIx fun c => C.meths.lookup (c, ("__getitem__" : Str))) f g)
      | _, _ => none
    else none
  | .Call (.Name x p) (e1 :: es) [] pos => if isOwn C pos && (!C.hot && okName x) then match cArgs (rec C) (e1 :: es) with
      | some f => if decide (x = "len") && (glB C.sc x && es.isEmpty) then some (eOwnLen (fun c => C.meths.lookup (c, ("__len__" : Str))) f)
        else if decide (x = "list") && glB C.sc x then some (eCB (ownList (fun c => C.itf.lookup c) fun c => C.meths.lookup (c, ("__len__" : Str))) f)
        else if visB C.sc x then match rec C (.Name x p) with
          | some fc => some (eMakeV (mkT C) fc f)
          | none => none
        else none
      | none => none
    else none
  | .Call (.Attribute o m apos) (e1 :: es) [] cpos => if isOwn C cpos && (!C.hot && (!superish o && ((apos.endLine == cpos.line) && decide (es.length < 28)))) then match rec C o, cArgs (rec C) (e1 :: es) with
      | some fo, some fa => some (eCMeth (fun c => C.cms.lookup (c, m)) fo fa)
      | _, _ => none
    else none
  | _ => none
/-- own `in`, list(o) without a length, static methods; repr; isinstance(e, (A, ..)) in a suite -/
def compV (rec : Cp → Expr → Option EF) (C : Cp) (e : Expr) : Option EF := match e with
  | .Compare a [.In] [b] pos => if isOwn C pos && (!C.hot && !(behindInMarks .In b)) then match rec C a, rec C b with
      | some f, some g => some (eOp (ownIn fun c => C.meths.lookup (c, ("__contains__" : Str))) f g)
      | _, _ => none
    else none
  | .Call (.Name x _) [e1] [] pos => if !C.hot && glB C.sc x then match cArgs (rec C) [e1] with
      | some f => if decide (x = "repr") then some (eCB bRepr f)
        else if decide (x = "list") && (isOwn C pos && !C.itn.isEmpty) then some (eCB (ownListN fun c => C.itn.lookup c) f)
        else none
      | none => none
    else none
  | .Call (.Name x _) [.Name y _, .Tuple ms _ _] [] _ => (match C.exv, namesOf ms with
    | some (z, c, _), some ns => if x = "isinstance" ∧ z = y ∧ glB C.sc "isinstance" = true ∧ visB C.sc y = true ∧ okName y = true ∧ (ns.all fun m => glB C.sc m && okName m) = true ∧ ns.length ≤ 20 then some (eIsxT C.isx c ns) else none
    | _, _ => none)
  | .Dict [] [] _ => some (eDct [])
  | .Call (.Attribute o m apos) es [] cpos => if isOwn C cpos && (!C.hot && (!superish o && ((apos.endLine == cpos.line) && (decide (es.length < 29) && C.sms.any fun q => q.1.2 == m)))) then match rec C o, cArgs (rec C) es with
      | some fo, some fa => some (eSMeth (fun c => C.sms.lookup (c, m)) fo fa)
      | _, _ => none
    else none
  | _ => none
def compX (rec : Cp → Expr → Option EF) (C : Cp) (e : Expr) : Option EF := match compV rec C e with
  | some f => some f
  | none => match compJ rec C e with
  | some f => some f
  | none => match compK rec C e with
    | some f => some f
    | none => match compO rec C e with
      | some f => some f
      | none => compI rec C e
mutual
def compE : Nat → Cp → Expr → Option EF
  | 0, _, _ => none
  | n + 1, C, e => match compX (compE n) C e with
   | some f => some f
   | none => match e with
    | .Constant c _ _ => (cConst c).map eC
    | .Name x _ => cName C x
    | .BinOp a op b _ => match compE n C a, compE n C b, binF op with
      | some f, some g, some h => some (eOp h f g)
      | _, _, _ => none
    | .UnaryOp .USub a _ => (compE n C a).map (eUn uNeg)
    | .UnaryOp .Not a _ => (compE n C a).map eNotF
    | .BoolOp op es _ => cBool (compE n C) op es
    | .Compare a [op] [b] _ => if behindInMarks op b then none else match compE n C a, compE n C b with
      | some f, some g => some (eOp (cmpG C op b) f g)
      | _, _ => none
    | .Compare a [op, op'] [b, c] _ => if lastMarks [op, op'] [b, c] then none else match compE n C a, compE n C b, compE n C c with
      | some f, some g, some h => some (eChain (cmpF op) (cmpF op') f g h)
      | _, _, _ => none
    | .IfExp c a b _ => match compT n C c, compE n C a, compE n C b with
      | some t, some f, some g => some (eIf t f g)
      | _, _, _ => none
    | .List es _ => (cArgs (compE n C) es).map eLst
    | .Tuple es _ _ => (cArgs (compE n C) es).map eTup
    | .Dict ks vs _ => if ks.length = vs.length ∧ ks ≠ [] ∧ ks.length ≤ 15 then (cPairs (compE n C) ks vs).map eDct else none
    | .Subscript a b _ => match b with
      | .Slice lo hi none _ => match compE n C a, cOpt (compE n C) lo, cOpt (compE n C) hi with
        | some f, some g, some h => some (eSl f g h)
        | _, _, _ => none
      | b => if isSl b then none else match compE n C a, compE n C b with
        | some f, some g => some (eOp opIx f g)
        | _, _ => none
    | .Attribute (.Name y _) f _ => match C.exv with
      | some (z, _, fs) => if z = y ∧ visB C.sc y = true ∧ f ∈ C.flds ∧ okName y = true then some (eFld fs f) else none
      | none => none
    | .Call (.Name x _) es [] _ => if isExcTest C x es then excTest C es else if okName x && glB C.sc x && !(C.hot && calmF x) then match cArgs (compE n C) es with
        | some f => match C.funs.lookup x with
          | some g => if C.hot then none else some (eCall g f)
          | none => match es with
            | [] => none
            | _ => (bfun x).map fun g => eCB g f
        | none => none
      else none
    | .Call (.Attribute o m apos) es [] cpos => if superish o || !(apos.endLine == cpos.line) || !(decide (es.length < 29)) then none else match bmeth m, compE n C o, cArgs (compE n C) es with
      | some (T, g), some f, some h => some (eBM T g f h)
      | _, _, _ => none
    | .ListComp elt [⟨tg, iter, ifs, 0⟩] scope _ =>
      if isSetD iter || C.hot then none
      else if blkC C.N C.sc scope (ownOf C.N scope) then match cIterT C (compE n C) tg iter, cTargT (C.blk scope) tg, (match ifs with | [] => some tYesF | [c] => compT n (C.blk scope) c | _ => none), compE n (C.blk scope) elt with
        | some it, some (is, g), some t, some f => if ∀ i ∈ is, i ∈ (ownOf C.N scope).map (·.2) then some (eLc it g t f ((ownOf C.N scope).map (·.2))) else none
        | _, _, _, _ => none
      else none
    | _ => none
def compT : Nat → Cp → Expr → Option TF
  | 0, _, _ => none
  | n + 1, C, e => match e with
    | .UnaryOp .Not a _ => (compT n C a).map tNotF
    | .BoolOp op es _ => cBoolT (compT n C) op es
    | .Compare a [op] [b] _ => if behindInMarks op b then none else match compE n C a, compE n C b with
      | some f, some g => some (tOfE (eOp (cmpG C op b) f g))
      | _, _ => none
    | .Compare a [op, op'] [b, c] _ => if lastMarks [op, op'] [b, c] then none else match compE n C a, compE n C b, compE n C c with
      | some f, some g, some h => some (tOfE (eChain (cmpF op) (cmpF op') f g h))
      | _, _, _ => none
    | e => if plainT e then (compE n C e).map tTruF else none
end
/-- is the value of an assignment to a name stored within the comprehension -/
def swapsB (C : Cp) (y : Str) (py pos : Pos) (scope : Scope) : Bool :=
  decide (C.sc.names.lookup y = some .local) && (py.line == pos.line) && !(scope.names.any fun (n, k) => n == y && (k == .local || k == .cell))
def sTup (is : List Nat) (f : EF) : SF := fun ℓ A => (f ℓ A).toS ℓ fun v A => match gTn is v ℓ A with | some ℓ' => .nx ℓ' A | none => .bad
mutual
def compS : Nat → Cp → Stmt → Option SF
  | 0, _, _ => none
  | n + 1, C, st => match st with
    | .Expr e _ => if isComp e then none else (compE n C e).map sExpr
    | .Return none _ => some sRetN
    | .Return (some e) _ => (compE n C e).map sRet
    | .If c a b _ => match compT n C c, compSs n C a, compSs n C b with
      | some t, some f, some g => some (sIf t f g)
      | _, _, _ => none
    | .Assign [.Name x px] e pos => if locB C x && !isExv C x then match slotOf C.N x, compE n C e with
        | some i, some f => if isComp e then (match e with
            | .ListComp _ [⟨_, _, _, 0⟩] scope lpos => if swapsB C x px lpos scope then some (sSet i f) else none
            | _ => none) else some (sSet i f)
        | _, _ => none
      else none
    | .Assign [.Subscript o i p] e _ => if isOwn C p && !C.hot then (match i with
      | .Slice (some lo) (some hi) none _ => (match compE n C e, compE n C o, compE n C lo, compE n C hi with
        | some f, some g, some h, some k => some (sSetSl f g h k)
        | _, _, _, _ => none)
      | i => if isSl i then none else match compE n C e, compE n C o, compE n C i with
        | some f, some g, some h => some (sOwnSet (fun c => C.meths.lookup (c, ("__setitem__" : Str))) f g h)
        | _, _, _ => none)
      else if isSl i then none else match compE n C e, compE n C o, compE n C i with
      | some f, some g, some h => some (sSub f g h)
      | _, _, _ => none
    | .Assign [.Attribute o f _] e _ => if superish o || !(C.noat.any fun q => q.2 == f) then none else match compE n C e, compE n C o with
      | some fv, some fo => some (sFldS (fun c => C.noat.contains (c, f)) f fv fo)
      | _, _ => none
    | .Assign [.Tuple es _ _] e _ => if C.hot || isTupE e || isComp e then none else match cNames C es, compE n C e with
      | some is, some f => some (sTup is f)
      | _, _ => none
    | .For (.Tuple es k p) iter body [] _ => if isSetD iter || C.hot then none else match cIterT C (compE n C) (.Tuple es k p) iter, cNames C es, compSs n C body with
      | some it, some is, some f => some (sFor it (gTn is) f)
      | _, _, _ => none
    | .For tg iter body [] _ => if isSetD iter || C.hot then none else match cIter C (compE n C) iter, cTarget C tg, compSs n C body with
      | some it, some (_, g), some f => some (sFor it g f)
      | _, _, _ => none
    | .While c body [] _ => match compT n C c, compSs n C body with
      | some t, some f => some (sWhile t f)
      | _, _ => none
    | .Raise (some (.Call (.Name x _) [e] [] _)) none _ => if C.hot || isStar e || !(glB C.sc x) || !(okName x) then none else match C.exs.lookup x, compE n C e with
      | some f, some fe => some (sRaise x f fe)
      | _, _ => none
    | .Try body [.ExceptHandler (some (.Name m _)) (some y) (b0 :: suite) _] [] [] _ => if C.hot || !C.top || !(decide (C.sc.names.lookup y = some .local)) || !(glB C.sc m) || !(okName m) || !(C.cat.any fun e => decide (e.1.2 = m)) then none else match slotOf C.N y, compSs n C body with
      | some i, some fb => some (sTry fb i (fun c => C.cat.lookup (c, m)) fun c fs => (compSs n (C.su y c fs) (b0 :: suite)).getD sBad)
      | _, _ => none
    | .Pass _ => some sNext
    | .Break _ => some sBrk
    | .Continue _ => some sCnt
    | _ => none
def compSs : Nat → Cp → List Stmt → Option SF
  | 0, _, _ => none
  | n + 1, C, sts => match sts with
    | [] => some sNext
    | [st] => compS n C st
    | st :: rest => match compS n C st, compSs n C rest with
      | some f, some g => some (sSeq f g)
      | _, _ => none
end
end Sh

set_option Elab.async false
set_option linter.all false
set_option maxRecDepth 100000
set_option maxHeartbeats 4000000
namespace Sh
open PySem L2 PyProof.Rows

section
variable {R : Rc}
/-- sound at every context that fits -/
def OkE (R : Rc) (C : Cp) (e : Expr) (f : EF) : Prop := ∀ X W, CxOk R C X W → SE R X W e f
def OkT (R : Rc) (C : Cp) (e : Expr) (f : TF) : Prop := ∀ X W, CxOk R C X W → ST R X W e f
variable {C : Cp} {rec : Expr → Option EF}
theorem cArgs_ok (hr : ∀ e f, rec e = some f → OkE R C e f) {X : Cx} {W : WX} (o : CxOk R C X W) : ∀ {es : List Expr} {f : AF}, cArgs rec es = some f → es.all (fun e => !isStar e) = true ∧ SA R X W es f
  | [], f, h => by
    unfold cArgs at h
    cases h
    exact ⟨rfl, _, pa_nil, sim_nil⟩
  | e :: es, f, h => by
    unfold cArgs at h
    split at h
    · cases h
    · rename_i hs
      have hs' : isStar e = false := by simpa using hs
      split at h
      · rename_i f1 f2 e1 e2
        cases h
        obtain ⟨t, h1, h2⟩ := hr e f1 e1 X W o
        obtain ⟨k, u, h3, h4⟩ := cArgs_ok hr o e2
        exact ⟨by rw [List.all_cons, k, hs']; rfl, _, pa_cons h1 h3 (star_cons hs'), sim_cons h2 h4⟩
      · cases h
theorem cBool_ok (hr : ∀ e f, rec e = some f → OkE R C e f) {X : Cx} {W : WX} (o : CxOk R C X W) {op : BoolOp} {pos : Pos} : ∀ {es : List Expr} {f : EF}, cBool rec op es = some f → SE R X W (.BoolOp op es pos) f
  | [], f, h => by unfold cBool at h; cases h
  | [e], f, h => by
    unfold cBool at h
    obtain ⟨t, h1, h2⟩ := hr e f h X W o
    exact ⟨t, pe_one h1, h2⟩
  | e :: e' :: es, f, h => by
    unfold cBool at h
    split at h
    · rename_i f1 f2 e1 e2
      cases h
      obtain ⟨t, h1, h2⟩ := hr e f1 e1 X W o
      obtain ⟨u, h3, h4⟩ := cBool_ok hr o (pos := pos) e2
      cases op with
      | And => exact ⟨_, pe_and h1 h3, sim_andV h2 h4⟩
      | Or => exact ⟨_, pe_or h1 h3, sim_orV h2 h4⟩
    · cases h
theorem cBoolT_ok {rec : Expr → Option TF} (hr : ∀ e f, rec e = some f → OkT R C e f) {X : Cx} {W : WX} (o : CxOk R C X W) {op : BoolOp} {pos : Pos} : ∀ {es : List Expr} {f : TF}, cBoolT rec op es = some f → ∃ t, PW X (.BoolOp op es pos) t ∧ Sim R eqR W t f
  | [], f, h => by unfold cBoolT at h; cases h
  | [e], f, h => by
    unfold cBoolT at h
    obtain ⟨t, h1, h2⟩ := hr e f h X W o
    cases op with
    | And => exact ⟨t, pw_and1 h1, h2⟩
    | Or => exact ⟨t, pw_or1 h1, h2⟩
  | e :: e' :: es, f, h => by
    unfold cBoolT at h
    split at h
    · rename_i f1 f2 e1 e2
      cases h
      obtain ⟨t, h1, h2⟩ := hr e f1 e1 X W o
      obtain ⟨u, h3, h4⟩ := cBoolT_ok hr o (pos := pos) e2
      cases op with
      | And => exact ⟨_, pw_and h1 h3, sim_and h2 h4⟩
      | Or => exact ⟨_, pw_or h1 h3, sim_or h2 h4⟩
    · cases h
theorem cPairs_ok (hr : ∀ e f, rec e = some f → OkE R C e f) {X : Cx} {W : WX} (o : CxOk R C X W) {pos : Pos} : ∀ {ks : List (Option Expr)} {vs : List Expr} {ps : List (EF × EF)}, cPairs rec ks vs = some ps →
    ks.all (·.isSome) = true ∧ ∃ ts, PPs X pos ks vs ts ∧ SPs R W ts ps
  | [], [], ps, h => by
    unfold cPairs at h
    cases h
    exact ⟨rfl, [], pps_nil, .nil⟩
  | some k :: ks, v :: vs, ps, h => by
    unfold cPairs at h
    split at h
    · rename_i f g r e1 e2 e3
      cases h
      obtain ⟨t, h1, h2⟩ := hr k f e1 X W o
      obtain ⟨u, h3, h4⟩ := hr v g e2 X W o
      obtain ⟨k5, ts, h5, h6⟩ := cPairs_ok hr o (pos := pos) e3
      exact ⟨by rw [List.all_cons, k5]; rfl, _, pps_cons h1 h3 h5, .cons h2 h4 h6⟩
    · cases h
  | none :: _, _ :: _, ps, h => by unfold cPairs at h; cases h
  | [], _ :: _, ps, h => by unfold cPairs at h; cases h
  | some _ :: _, [], ps, h => by unfold cPairs at h; cases h
  | none :: _, [], ps, h => by unfold cPairs at h; cases h
theorem cOpt_ok (hr : ∀ e f, rec e = some f → OkE R C e f) {X : Cx} {W : WX} (o : CxOk R C X W) {e : Option Expr} {f : OF} (h : cOpt rec e = some f) : SO R X W e f := by
  unfold cOpt at h
  cases e with
  | none => cases h; exact ⟨_, po_none, sim_oNone⟩
  | some e =>
    simp only at h
    cases e1 : rec e with
    | none => rw [e1] at h; cases h
    | some g =>
      rw [e1] at h
      cases h
      obtain ⟨t, h1, h2⟩ := hr e g e1 X W o
      exact ⟨_, po_some h1, sim_oSome h2⟩
theorem cConst_ok {X : Cx} {W : WX} {c : Const} {k : Nat} {pos : Pos} {v : AV} (h : cConst c = some v) : SE R X W (.Constant c k pos) (eC v) := by
  cases c <;> simp only [cConst] at h <;> cases h
  · exact ⟨_, pe_non, sim_c fun _ _ => mk_non⟩
  · exact ⟨_, pe_bl, sim_c fun _ _ => mk_bl⟩
  · exact ⟨_, pe_int, sim_c fun _ _ => mk_int⟩
  · exact ⟨_, pe_str, sim_c fun _ _ => mk_str⟩
theorem cName_ok {X : Cx} {W : WX} (o : CxOk R C X W) {x : Str} {pos : Pos} {f : EF} (h : cName C x = some f) : SE R X W (.Name x pos) f := by
  unfold cName at h
  split at h
  · rename_i hn
    obtain ⟨n1, n2, n3⟩ := okName_ok (Bool.and_eq_true_iff.mp hn).1
    split at h
    · rename_i hv
      cases e : slotOf C.N x with
      | none => rw [e] at h; cases h
      | some i =>
        rw [e] at h
        cases h
        exact ⟨_, pe_var (by rw [o.N]; exact slotOf_ok e) (by rw [o.sc]; exact visB_ok hv) n1 n2, sim_var⟩
    · split at h
      · rename_i hg
        split at h
        · rename_i v e
          cases h
          obtain ⟨u, y, h1, h2, h3⟩ := o.cons x v e
          exact ⟨_, pe_glob (glB_ok o hg) h1 h2 n1, sim_c h3⟩
        · cases e : btyp x with
          | none => rw [e] at h; cases h
          | some T =>
            rw [e] at h
            cases h
            obtain ⟨h1, h2⟩ := btyp_ok o e
            exact ⟨_, pe_bltn (v := .ty T) (glB_ok o hg) h1 h2 rfl n3 n1, sim_c fun ι H => by unfold VR; rfl⟩
      · cases h
  · cases h
theorem cTarget_ok {X : Cx} {W : WX} (o : CxOk R C X W) {e : Expr} {i : Nat} {g : GF1} (h : cTarget C e = some (i, g)) : g = gNm i ∧ PG X e (gName i) := by
  unfold cTarget at h
  split at h
  · split at h
    · rename_i x p hl
      cases e : slotOf C.N x with
      | none => rw [e] at h; cases h
      | some j =>
        rw [e] at h
        cases h
        obtain ⟨h1, h2⟩ := locB_ok o (Bool.and_eq_true_iff.mp hl).1
        exact ⟨rfl, pg_name (by rw [o.N]; exact o.nd) (by rw [o.N]; exact slotOf_ok e) h1 h2⟩
    · cases h
  · cases h
theorem iRange1_len {f : EF} : ∀ ℓ A as A', aCons f aNil ℓ A = .ok as A' → as.length = 1 := fun ℓ A as A' h => by
  unfold aCons aNil at h
  cases e : f ℓ A with
  | ok a A1 => rw [e] at h; cases h; rfl
  | _ => rw [e] at h; cases h
theorem iRange2_len {f g : EF} : ∀ ℓ A as A', aCons f (aCons g aNil) ℓ A = .ok as A' → as.length = 2 := fun ℓ A as A' h => by
  unfold aCons aNil at h
  cases e : f ℓ A with
  | ok a A1 =>
    rw [e] at h
    simp only [Res.bind] at h
    cases e2 : g ℓ A1 with
    | ok b A2 => rw [e2] at h; cases h; rfl
    | _ => rw [e2] at h; cases h
  | _ => rw [e] at h; cases h
theorem cIter_ok (hr : ∀ e f, rec e = some f → OkE R C e f) {X : Cx} {W : WX} (o : CxOk R C X W) {e tg : Expr} {f : IF} (h : cIter C rec e = some f) : SI R X W tg e f := by
  have viaVal : ∀ {e : Expr} {f : IF}, (rec e).map iVal = some f → SI R X W tg e f := fun {e f} h => by
    cases e1 : rec e with
    | none => rw [e1] at h; cases h
    | some g =>
      rw [e1] at h
      cases h
      obtain ⟨t, h1, h2⟩ := hr e g e1 X W o
      exact ⟨_, pi_val h1, sim_iVal o.K h2⟩
  unfold cIter at h
  split at h
  · rename_i x p a pos
    split at h
    · rename_i hx
      obtain ⟨rfl, hg⟩ := hx
      split at h
      · cases h
      · rename_i hs
        have hs' : isStar a = false := by simpa using hs
        cases e1 : rec a with
        | none => rw [e1] at h; cases h
        | some g =>
          rw [e1] at h
          cases h
          obtain ⟨t, h1, h2⟩ := hr a g e1 X W o
          exact ⟨_, pi_range1 (glB_ok o hg) (o.blt _ (by decide +kernel)) (pa_cons h1 pa_nil (star_cons hs')) (star_cons hs'), sim_iRange1 (sim_cons h2 sim_nil) iRange1_len⟩
    · split at h
      · rename_i hx
        obtain ⟨rfl, hg⟩ := hx
        split at h
        · cases h
        · rename_i hs
          have hs' : isStar a = false := by simpa using hs
          cases e1 : rec a with
          | none => rw [e1] at h; cases h
          | some g =>
            rw [e1] at h
            cases h
            obtain ⟨t, h1, h2⟩ := hr a g e1 X W o
            exact ⟨_, RT.pi_revA (glB_ok o hg) (o.blt _ (by decide +kernel)) h1 (star_cons hs'), sim_iRev o.K h2⟩
      · exact viaVal h
  · rename_i x p a b pos
    split at h
    · rename_i hx
      obtain ⟨rfl, hg⟩ := hx
      split at h
      · cases h
      · rename_i hs
        simp only [Bool.or_eq_true, not_or, Bool.not_eq_true] at hs
        split at h
        · rename_i g1 g2 e1 e2
          cases h
          obtain ⟨t, h1, h2⟩ := hr a g1 e1 X W o
          obtain ⟨u, h3, h4⟩ := hr b g2 e2 X W o
          exact ⟨_, pi_range2 (glB_ok o hg) (o.blt _ (by decide +kernel)) (pa_cons h1 (pa_cons h3 pa_nil (star_cons hs.2)) (star_cons hs.1)) (by rw [star_cons hs.1, star_cons hs.2]; rfl) (star_cons hs.2), sim_iRange2 (sim_cons h2 (sim_cons h4 sim_nil)) iRange2_len⟩
        · cases h
    · exact viaVal h
  · exact viaVal h
/-- within a comprehension's block -/
theorem CxOk.blk {X : Cx} {W : WX} (o : CxOk R C X W) (hh : C.hot = false) (s : Shared) (H : Hp) {scope : Scope} (hk : scope.kind = .function) (cl : List (Str × Addr)) (D : Addr) (fp : List Addr) : CxOk R (C.blk scope) (X.blk s H scope (compEnvC scope cl D X.env) fp) WF :=
  ⟨o.K, o.w, o.N, by show relS scope X.env.scope = relS scope C.sc; rw [o.sc], hk, o.nd, o.calm, o.room, o.hu, o.nxs, fun _ => rfl, takes0, PassesOwn.never, fun x h => h, o.gd, fun x g h => by
    obtain ⟨f, F⟩ := o.funs x g h
    exact ⟨f, F.mg, F.kp, F.ok⟩, o.cons, o.blt, fun x f e => (by cases e), fun c m b e => (by cases e), fun c m b e => (by cases e), fun y c fs e => (by cases e), fun _ e => (by cases e), fun i x e => (by rw [o.nxs hh] at e; cases e), o.fld, fun z m c g e => (by
    obtain ⟨Ca, f, k, h1, F⟩ := o.meth hh m c g e
    exact ⟨Ca, f, k, h1, ⟨F.c, F.hm, F.F, F.hr, F.x⟩⟩), fun z c g e1 e2 => (by
    obtain ⟨Ca, f, k, h1, h3, F⟩ := o.made hh c g e1 e2
    exact ⟨Ca, f, k, h1, h3, ⟨F.M, F.F, F.hr⟩⟩), fun z m c g e => (by
    obtain ⟨Ca, k, h1, F⟩ := o.cm hh m c g e
    exact ⟨Ca, k, h1, ⟨F.ex, F.hr⟩⟩), fun z c Fl g e1 e2 => (by
    obtain ⟨Ca, fi, ki, fl, kl, h1, ⟨a1, a2, a3, a4, a5⟩, h2, h3, h4⟩ := o.it hh c Fl g e1 e2
    exact ⟨Ca, fi, ki, fl, kl, h1, ⟨a1, a2, a3, a4, a5⟩, h2, h3, h4⟩), fun z m c g e => (by
    obtain ⟨Ca, k, h1, F⟩ := o.sm hh m c g e
    exact ⟨Ca, k, h1, ⟨F.ex, F.hr⟩⟩), fun z c Fl e => (by
    obtain ⟨Ca, fi, ki, h1, N⟩ := o.itn hh c Fl e
    exact ⟨Ca, fi, ki, h1, ⟨N.m, N.c, N.n, N.nolen, N.nohint, N.F, N.r⟩⟩), o.sys⟩
theorem cEnum_ok (hr : ∀ e f, rec e = some f → OkE R C e f) {X : Cx} {W : WX} (o : CxOk R C X W) {e : Expr} {es : List Expr} {k : Nat} {p : Pos} {f : IF} (h : cEnum C rec e = some f) : SI R X W (.Tuple es k p) e f := by
  unfold cEnum at h
  split at h
  · rename_i x p1 a pos
    split at h
    · rename_i hc
      obtain ⟨rfl, hg, hs⟩ := hc
      cases e1 : rec a with
      | none => rw [e1] at h; cases h
      | some g =>
        rw [e1] at h
        cases h
        obtain ⟨t, h1, h2⟩ := hr a g e1 X W o
        exact ⟨_, pi_enumA (glB_ok o hg) (o.blt _ (by decide +kernel)) (pa_cons h1 pa_nil (star_cons hs)) (star_cons hs), sim_enum o.K (sim_cons h2 sim_nil)⟩
    · cases h
  · rename_i x p1 a b pos
    split at h
    · rename_i hc
      obtain ⟨rfl, hg, hs, hs2⟩ := hc
      split at h
      · rename_i f1 f2 e1 e2
        cases h
        obtain ⟨t, h1, h2⟩ := hr a f1 e1 X W o
        obtain ⟨u, h3, h4⟩ := hr b f2 e2 X W o
        exact ⟨_, RZ.pi_zipA (glB_ok o hg) (o.blt _ (by decide +kernel)) (pa_cons h1 (pa_cons h3 pa_nil (star_cons hs2)) (star_cons hs)) (star_cons hs) (star_any (by simp [hs2])), sim_zip o.K (sim_cons h2 (sim_cons h4 sim_nil))⟩
      · cases h
    · cases h
  · cases h
theorem cIterT_ok (hr : ∀ e f, rec e = some f → OkE R C e f) {X : Cx} {W : WX} (o : CxOk R C X W) {e tg : Expr} {f : IF} (h : cIterT C rec tg e = some f) : SI R X W tg e f := by
  unfold cIterT at h
  split at h
  · rename_i ht
    cases tg with
    | Tuple es k p =>
      split at h
      · rename_i it e1
        cases h
        exact cEnum_ok hr o e1
      · exact cIter_ok hr o h
    | _ => cases ht
  · exact cIter_ok hr o h
end
end Sh

set_option Elab.async false
set_option linter.all false
set_option maxRecDepth 100000
set_option maxHeartbeats 4000000
namespace Sh
open PySem L2 PyProof.Rows
section
variable {R : Rc} {C : Cp} {X : Cx} {W : WX}
theorem nx_of' {C : Cp} {X : Cx} {W : WX} (o : CxOk R C X W) {x : Str} {i : Nat} (hi : slotOf C.N x = some i) (hx : isExv C x = false) : ∀ y, R.xs ≠ some (i, y) := fun y e => by
  obtain ⟨z, c, fs, h1, h2⟩ := o.xsl i y e
  have h3 := slotOf_ok hi
  rw [slotOf_ok h2] at h3
  have h4 : z = x := Option.some.inj h3
  unfold isExv at hx
  rw [h1] at hx
  simp [h4] at hx
theorem cNames_ok (o : CxOk R C X W) : ∀ {es : List Expr} {is : List Nat}, cNames C es = some is → (assignEach es X.env).length = is.length ∧ (assignEach es X.env).findIdx? (·.1) = none ∧ ∃ t, PGs X es t ∧ ∀ (vs : List AV) (xs : List V) (σ : L2.St) (ℓ : LSt) (H : Hp) (ι : List Addr) (Q : L2.St → Hp → Prop), vs.length = is.length → LR R ι H ℓ σ → VRs R ι H vs xs → (∀ σ', LR R ι H (setAll is vs ℓ) σ' → Q σ' H) → t xs σ H Q
  | [], is, h => by
    cases h
    refine ⟨rfl, rfl, gNil, pgs_nil, fun vs xs σ ℓ H ι Q hl L v q => ?_⟩
    cases vs with
    | nil => exact ⟨vrs0 v, q σ L⟩
    | cons => cases hl
  | e :: es, is, h => by
    cases e with
    | Name x p =>
      unfold cNames at h
      split at h
      · rename_i hl
        split at h
        · rename_i i is' e1 e2
          cases h
          rw [Bool.and_eq_true, Bool.not_eq_true'] at hl
          obtain ⟨l1, l2⟩ := locB_ok o hl.1
          obtain ⟨a1, a2, t, h1, h2⟩ := cNames_ok o e2
          have hi : X.N[i]? = some x := by rw [o.N]; exact slotOf_ok e1
          refine ⟨?_, ?_, gCons (gName i) t, pgs_cons (pg_name (by rw [o.N]; exact o.nd) hi l1 l2) h1 rfl, fun vs xs σ ℓ H ι Q hlen L v q => ?_⟩
          · show (assignEach es X.env).length + 1 = _
            rw [a1]; rfl
          · show List.findIdx? (·.1) ((false, assign (.Name x p) X.env) :: assignEach es X.env) = none
            rw [List.findIdx?_cons, a2]
            rfl
          · cases vs with
            | nil => cases hlen
            | cons w vs =>
              unfold VRs at v
              obtain ⟨y, ys, rfl, v1, v2⟩ := v
              refine ⟨y, ys, rfl, ?_⟩
              exact h2 vs ys (σ.set i (some y)) (ℓ.set i (some w)) H ι Q (by simpa using hlen) (L.set v1 (nx_of' o e1 hl.2)) v2 q
        · cases h
      · cases h
    | _ => cases h
theorem cNames_pg (o : CxOk R C X W) : ∀ {es : List Expr} {is : List Nat}, cNames C es = some is → (assignEach es X.env).length = is.length ∧ (assignEach es X.env).findIdx? (·.1) = none ∧ PGs X es (gNs is)
  | [], is, h => by
    cases h
    exact ⟨rfl, rfl, pgs_nil⟩
  | e :: es, is, h => by
    cases e with
    | Name x p =>
      unfold cNames at h
      split at h
      · rename_i hl
        split at h
        · rename_i i is' e1 e2
          cases h
          rw [Bool.and_eq_true, Bool.not_eq_true'] at hl
          obtain ⟨l1, l2⟩ := locB_ok o hl.1
          obtain ⟨a1, a2, h1⟩ := cNames_pg o e2
          have hi : X.N[i]? = some x := by rw [o.N]; exact slotOf_ok e1
          refine ⟨?_, ?_, pgs_cons (pg_name (by rw [o.N]; exact o.nd) hi l1 l2) h1 rfl⟩
          · show (assignEach es X.env).length + 1 = _
            rw [a1]; rfl
          · show List.findIdx? (·.1) ((false, assign (.Name x p) X.env) :: assignEach es X.env) = none
            rw [List.findIdx?_cons, a2]
            rfl
        · cases h
      · cases h
    | _ => cases h
def tgOf (K : PySem.W.Frag) (e : Expr) (is : List Nat) : TG := match e with
  | .Tuple _ _ _ => gTup K is.length (gNs is)
  | _ => gName (is.headD 0)
theorem cTargT_pg (o : CxOk R C X W) (hh : C.hot = false) {e : Expr} {is : List Nat} {g : GF1} (h : cTargT C e = some (is, g)) : PG X e (tgOf R.K e is) := by
  unfold cTargT at h
  split at h
  · rename_i es k p
    cases e1 : cNames C es with
    | none => rw [e1] at h; cases h
    | some js =>
      rw [e1] at h
      cases h
      obtain ⟨a1, a2, a3⟩ := cNames_pg o e1
      show PG X _ (gTup R.K is.length (gNs is))
      rw [← o.K]
      exact pg_tup (n := is.length) (o.calm hh) a3 a1 a2
  · rename_i z hne
    cases e1 : cTarget C e with
    | none => rw [e1] at h; cases h
    | some p =>
      rw [e1] at h
      cases h
      obtain ⟨_, h2⟩ := cTarget_ok o e1
      cases e with
      | Tuple => cases e1
      | _ => exact h2
theorem cTargT_sim {e : Expr} {is ws : List Nat} {g : GF1} (h : cTargT C e = some (is, g)) (hw : ∀ i ∈ is, i ∈ ws) (hxs : R.xs = none) : SimGW R (tgOf R.K e is) g ws := by
  unfold cTargT at h
  split at h
  · rename_i es k p
    cases e1 : cNames C es with
    | none => rw [e1] at h; cases h
    | some js =>
      rw [e1] at h
      cases h
      exact simGW_tup hw hxs
  · rename_i z hne
    cases e1 : cTarget C e with
    | none => rw [e1] at h; cases h
    | some p =>
      rw [e1] at h
      cases h
      have hg : p.2 = gNm p.1 := by
        unfold cTarget at e1
        split at e1
        · split at e1
          · rename_i x q hl
            cases e : slotOf C.N x with
            | none => rw [e] at e1; cases e1
            | some j => rw [e] at e1; cases e1; rfl
          · cases e1
        · cases e1
      rw [hg]
      cases e with
      | Tuple => cases e1
      | _ => exact simGW_name (hw _ List.mem_cons_self) fun y z => by rw [hxs] at z; cases z
theorem tup_ok (o : CxOk R C X W) (hh : C.hot = false) {es : List Expr} {k : Nat} {pos : Pos} {is : List Nat} (h : cNames C es = some is) : SG R X (.Tuple es k pos) (gTn is) := by
  obtain ⟨a1, a2, t, h1, h2⟩ := cNames_ok o h
  refine ⟨_, pg_tup (n := is.length) (o.calm hh) h1 a1 a2, fun v x σ ℓ ℓ' H ι A Q L M r e q => ?_⟩
  unfold gTn at e
  cases v with
  | tup xs =>
    simp only at e
    split at e
    · rename_i hl
      cases e
      obtain ⟨p, vs, rfl, h3, h4⟩ := vr_tup r
      exact ⟨p, vs, rfl, by rw [o.K]; exact h3, by rw [← h4.length]; exact hl, h2 xs vs σ ℓ H ι Q hl L h4 q⟩
    · cases e
  | _ => cases e

theorem simS_tup {is : List Nat} {ta : TE} {fa : EF} {g : TG} (ha : Sim R (VR R) W ta fa) (hg : SimG R g (gTn is)) : SimS R W (tAsg ta g) (sTup is fa) := fun D σ ℓ H ι A L M q =>
  ha σ ℓ H ι A _ L M (ThenS.ofE L q fun a A1 ι1 H1 x U1 M1 r1 L1 q1 => by
    cases e : gTn is a ℓ A1 with
    | none => rw [e] at q1; exact False.elim q1
    | some ℓ' =>
      rw [e] at q1
      exact hg a x σ ℓ ℓ' H1 ι1 A1 _ L1 M1 r1 e fun σ' L' => q1 ι1 H1 σ' (Up.refl _ _ _) M1 L')
theorem swapsSole_no {tg e : Expr} {l : Nat} {env : Env} (h : isComp e = false) : swapsWithSole [tg] e l env = pure false := by
  show swapsWith e (some tg) l env = pure false
  exact swaps_no h
theorem swapped_no {tg e : Expr} {env : Env} (h : isTupE e = false) : swappedStores [tg] e env = pure none := by
  cases e <;> first | (cases h; done) | (cases tg <;> rfl)
end
end Sh

set_option Elab.async false
set_option linter.all false
set_option maxRecDepth 100000
set_option maxHeartbeats 8000000
namespace Sh
open PySem L2 PyProof.Rows

section
variable {R : Rc}
/-- the reading that a function itself is -/
def cRd {α β : Type} (R : Rc) (rel : List Addr → Hp → α → β → Prop) (W : WX) (f : LSt → AH → Res α) : L2.St → Hp → (β → Hp → Prop) → Prop := fun σ H Q =>
  ∃ ι A ℓ, LR R ι H ℓ σ ∧ Emb R ι A H ∧ Then R rel (f ℓ A) ι H Q (fun c d H' => W c d σ H')
theorem sim_cRd {α β : Type} {rel : List Addr → Hp → α → β → Prop} {W : WX} {f : LSt → AH → Res α} : Sim R rel W (cRd R rel W f) f := fun σ ℓ H ι A Q L M q => ⟨ι, A, ℓ, L, M, q⟩
theorem SE.canon {X : Cx} {W : WX} {e : Expr} {f : EF} (h : SE R X W e f) : PE X e (cRd R (VR R) W f) := by
  obtain ⟨t, h1, h2⟩ := h
  exact ⟨fun pins s σ H Q I ⟨ι, A, ℓ, L, M, q⟩ => h1.run pins s σ H Q I (h2 σ ℓ H ι A Q L M q)⟩
theorem ST.canon {X : Cx} {W : WX} {e : Expr} {f : TF} (h : ST R X W e f) : PT X e (cRd R eqR W f) := by
  obtain ⟨t, h1, h2⟩ := h
  exact ⟨fun pins s σ H Q I ⟨ι, A, ℓ, L, M, q⟩ => h1.run pins s σ H Q I (h2 σ ℓ H ι A Q L M q)⟩
theorem sim_yes {W : WX} : Sim R eqR W tYes tYesF := fun σ ℓ H ι A Q L M q => q.here M rfl
theorem FR.look {ι : List Addr} {H : Hp} {f : Str} {v : AV} : ∀ {fs : List (Str × AV)} {gs : List (Str × V)}, FR R ι H fs gs → fs.lookup f = some v → ∃ x, gs.lookup f = some x ∧ VR R ι H v x
  | [], _, _, e => by cases e
  | (g, a) :: fs, gs, h, e => by
    unfold FR at h
    obtain ⟨x, r, rfl, q, t⟩ := h
    rw [List.lookup_cons] at e ⊢
    split at e
    · cases e
      exact ⟨x, rfl, q⟩
    · exact FR.look t e
/-- e.f in a suite -/
theorem fld_ok {C : Cp} {X : Cx} {W : WX} (o : CxOk R C X W) {y c f : Str} {fs : List (Str × AV)} {p pos : Pos} (h : C.exv = some (y, c, fs)) (hv : visB C.sc y = true) (hf : f ∈ C.flds) (ho : okName y = true) : SE R X W (.Attribute (.Name y p) f pos) (eFld fs f) := by
  obtain ⟨X0, a, oe, cls, d, pn, rfl, hz, hd, ⟨Ca, dd, fs', h1, rfl, rfl, T, h3, h4⟩, i, hi, hxs⟩ := o.exv y c fs h
  have he : PE (X0.suite a ((a, oe) :: pn)) (.Name y p) (tVar i) := pe_var (by rw [o.N]; exact slotOf_ok hi) (by rw [o.sc]; exact visB_ok hv) (okName_ok ho).1 (okName_ok ho).2.1
  refine ⟨_, pe_xf (X := X0) (C := Ca) (n := f) ⟨T.hg, T.hk, T.hs, T.hd⟩ (h3 f hf) hz hd he rfl, fun σ ℓ H ι A Q L M q => ?_⟩
  unfold eFld at q
  cases e : fs.lookup f with
  | none => rw [e] at q; exact False.elim q
  | some v =>
    rw [e] at q
    obtain ⟨h5, h6⟩ := h4 ι H M.inv
    obtain ⟨x, h7, h8⟩ := h6.look e
    exact ⟨_, L.2.2 i _ hxs, rfl, rfl, dd, fs', x, rfl, h5, h7, q.here M h8⟩
/-- isinstance(e, D) in a suite -/
theorem isx_ok {C : Cp} {X : Cx} {W : WX} (o : CxOk R C X W) {y c m : Str} {fs : List (Str × AV)} {p0 p1 p2 pos : Pos} (h : C.exv = some (y, c, fs)) (hg : glB C.sc "isinstance" = true) (hv : visB C.sc y = true) (hm : glB C.sc m = true) (hn : okName m = true) (ho : okName y = true) :
    SE R X W (.Call (.Name "isinstance" p0) [.Name y p1, .Name m p2] [] pos) (eIsx C.isx c m) := by
  cases e : C.isx.lookup (c, m) with
  | none =>
    refine ⟨_, ⟨fun pins s σ H Q I h => False.elim h⟩, fun σ ℓ H ι A Q L M q => ?_⟩
    unfold eIsx at q
    rw [e] at q
    exact q
  | some b =>
    obtain ⟨n1, n2, n3⟩ := okName_ok hn
    obtain ⟨X0, a, oe, cls, d, pn, rfl, hz, hd, ⟨Ca, dd, fs', h1, rfl, rfl, T, h3, h4⟩, i, hi, hxs⟩ := o.exv y c fs h
    obtain ⟨Cc, u, z, k1, k2, k3, k4, k5⟩ := o.isx c m b e
    rw [h1] at k1
    cases k1
    have he : PE (X0.suite a ((a, oe) :: pn)) (.Name y p1) (tVar i) := pe_var (by rw [o.N]; exact slotOf_ok hi) (by rw [o.sc]; exact visB_ok hv) (okName_ok ho).1 (okName_ok ho).2.1
    have hc : PE (X0.suite a ((a, oe) :: pn)) (.Name m p2) (tC z) := by
      rcases k2 with k2 | ⟨k2, k6⟩
      · exact pe_glob (glB_ok o hm) k2 k3 n1
      · exact pe_bltn (glB_ok o hm) k2 k6 k3 n3 n1
    refine ⟨_, pe_callB (Sx.call_isX (X := X0) T hz hd) (glB_ok o hg) (o.blt _ (by decide +kernel)) (by decide +kernel) (pa_cons he (pa_cons hc pa_nil)) (by decide) (by decide) rfl rfl, fun σ ℓ H ι A Q L M q => ?_⟩
    unfold eIsx at q
    rw [e] at q
    obtain ⟨h5, h6⟩ := h4 ι H M.inv
    exact ⟨_, L.2.2 i _ hxs, z, u, b, fs', rfl, k4, k5, h5, q.here M mk_bl⟩
theorem compJ_ok {rec : Cp → Expr → Option EF} (hE : ∀ C e f, rec C e = some f → OkE R C e f) {C : Cp} {X : Cx} {W : WX} (o : CxOk R C X W) {e : Expr} {f : EF} (h : compJ rec C e = some f) : SE R X W e f := by
  unfold compJ at h
  split at h
  · rename_i ob m apos r p2 a pos2 cpos
    split at h
    · rename_i hc
      obtain ⟨rfl, rfl, hh, hsu, hln, hg, hst⟩ := hc
      split at h
      · rename_i f1 f2 e1 e2
        cases h
        obtain ⟨t, h1, h2⟩ := hE C _ f1 e1 X W o
        obtain ⟨u, h3, h4⟩ := hE C _ f2 e2 X W o
        exact ⟨_, pe_joinRev (o.calm hh) h1 (glB_ok o hg) (o.blt _ (by decide +kernel)) h3 (star_cons hst) rfl (base_no hsu) hln, sim_joinRev o.K h2 h4⟩
      · cases h
    · cases h
  · cases h
theorem cmpG_ok {C : Cp} {X : Cx} {W : WX} (o : CxOk R C X W) (op : CmpOp) (b : Expr) : OpS R X (compareOp op) (cmpG C op b) := by
  unfold cmpG
  split
  · split
    · exact op_inD_s o.K o.w o.gd o.hu
    · exact op_in_s o.K o.hu
  · split
    · exact op_notInD_s o.K o.w o.gd o.hu
    · exact op_notIn_s o.K o.hu
  · exact cmpF_ok o op
theorem compK_ok {rec : Cp → Expr → Option EF} (hE : ∀ C e f, rec C e = some f → OkE R C e f) {C : Cp} {X : Cx} {W : WX} (o : CxOk R C X W) {e : Expr} {f : EF} (h : compK rec C e = some f) : SE R X W e f := by
  have hu : X.A.units + 1 < cLine := by have := o.hu; omega
  unfold compK at h
  split at h
  · rename_i r p1 r2 p2 a pos2 pos1
    split at h
    · rename_i hc
      obtain ⟨rfl, rfl, hh, hg1, hg2, hst⟩ := hc
      cases e1 : rec C a with
      | none => rw [e1] at h; cases h
      | some f1 =>
        rw [e1] at h
        cases h
        obtain ⟨t, h1, h2⟩ := hE C _ f1 e1 X W o
        exact ⟨_, pe_sortSet (o.calm hh) h1 (glB_ok o hg1) (glB_ok o hg2) (o.blt _ (by decide +kernel)) (o.blt _ (by decide +kernel)) (star_cons hst), sim_sortSet o.K h2⟩
    · cases h
  · rename_i ob m apos a cpos
    split at h
    · rename_i hc
      obtain ⟨rfl, hsu, hln, hst⟩ := hc
      split at h
      · rename_i f1 f2 e1 e2
        cases h
        obtain ⟨t, h1, h2⟩ := hE C _ f1 e1 X W o
        obtain ⟨u, h3, h4⟩ := hE C _ f2 e2 X W o
        have m1 : M1 X ob "get" apos a cpos := ⟨base_no hsu, by rw [star_all (by simp [hst])]; rfl, hln, by rw [star_cons hst]; rfl⟩
        exact ⟨_, PE.or (pe_dget1 hu h1 h3 m1) (pe_kget1 h1 h3 m1), sim_get1 o.K o.w o.gd h2 h4⟩
      · cases h
    · cases h
  · rename_i ob m apos a b cpos
    split at h
    · rename_i hc
      obtain ⟨rfl, hsu, hln, hst, hst2⟩ := hc
      split at h
      · rename_i f1 f2 f3 e1 e2 e3
        cases h
        obtain ⟨t, h1, h2⟩ := hE C _ f1 e1 X W o
        obtain ⟨u, h3, h4⟩ := hE C _ f2 e2 X W o
        obtain ⟨v, h5, h6⟩ := hE C _ f3 e3 X W o
        have m2 : M2 X ob "get" apos a b cpos := ⟨base_no hsu, by rw [star_all (by simp [hst, hst2])]; rfl, hln, by rw [star_cons hst, star_cons hst2]; rfl⟩
        exact ⟨_, PE.or (pe_dget2 hu h1 h3 h5 m2) (pe_kget2 h1 h3 h5 m2), sim_get2 o.K o.w o.gd h2 h4 h6⟩
      · cases h
    · cases h
  · cases h
theorem compI_ok {rec : Cp → Expr → Option EF} (hE : ∀ C e f, rec C e = some f → OkE R C e f) {C : Cp} {X : Cx} {W : WX} (o : CxOk R C X W) {e : Expr} {f : EF} (h : compI rec C e = some f) : SE R X W e f := by
  unfold compI at h
  split at h
  · rename_i ob fl pos
    split at h
    · cases h
    · rename_i hc
      rw [Bool.not_eq_true, Bool.or_eq_false_iff] at hc
      cases e1 : rec C ob with
      | none => rw [e1] at h; cases h
      | some fo =>
        rw [e1] at h
        cases h
        obtain ⟨t, h1, h2⟩ := hE C _ fo e1 X W o
        exact ⟨_, pe_fld h1 (base_no hc.1), sim_fldG (o.fld fl) h2⟩
  · rename_i x p es pos
    split at h
    · rename_i hc
      simp only [Bool.and_eq_true, Bool.not_eq_true'] at hc
      obtain ⟨hc1, hh, hg, hn⟩ := hc
      obtain ⟨n1, n2, n3⟩ := okName_ok hn
      split at h
      · rename_i g fa e1 e2
        cases h
        obtain ⟨hs, t, h1, h2⟩ := cArgs_ok (hE C) o e2
        obtain ⟨Ca, f, k, k1, k2, KF⟩ := o.made hh x g hc1 e1
        cases es with
        | nil =>
          unfold cArgs at e2
          cases e2
          exact ⟨_, pe_makeT0 KF (glB_ok o hg) k2 o.tk n1, sim_make k1 sim_nil⟩
        | cons e es =>
          rw [List.all_cons, Bool.and_eq_true, Bool.not_eq_true'] at hs
          exact ⟨_, pe_makeT KF (glB_ok o hg) k2 o.tk h1 n1 (star_cons hs.1) (star_any hs.2), sim_make k1 h2⟩
      · cases h
    · cases h
  · rename_i ob m apos es cpos
    split at h
    · rename_i hc
      simp only [Bool.and_eq_true, Bool.not_eq_true', decide_eq_true_eq] at hc
      obtain ⟨hh, hsu, hln, hlen, _, _⟩ := hc
      split at h
      · rename_i fo fa e1 e2
        cases h
        obtain ⟨t, h1, h2⟩ := hE C _ fo e1 X W o
        obtain ⟨hs, u, h3, h4⟩ := cArgs_ok (hE C) o e2
        have hf : methodCallForm (es.length + 0) (backTo cpos (starEach es X.env)) (backToKw cpos (keywordEach [] X.env)) = true := by
          show ((backTo cpos (starEach es X.env)).all (fun x => !x.1) && true && decide (es.length + 0 + 0 < 30)) = true
          rw [star_all hs]
          simp
          omega
        cases es with
        | nil =>
          unfold cArgs at e2
          cases e2
          exact ⟨_, pe_methT0 h1 o.tk (meth_eq (base_no hsu) hf hln), sim_meth (o.meth hh m) h2 sim_nil⟩
        | cons e es =>
          rw [List.all_cons, Bool.and_eq_true, Bool.not_eq_true'] at hs
          exact ⟨_, pe_methT h1 o.tk h3 (star_cons hs.1) (star_any hs.2) (meth_eq (base_no hsu) hf hln), sim_meth (o.meth hh m) h2 h4⟩
      · cases h
    · cases h
  · cases h
theorem subT_no {b : Expr} (h : isSl b = false) (o i : Value) : subscripted b true o i = runValue (.builtin "lifetime.subscript" ⟨[o, i], []⟩) := by
  cases b <;> first | rfl | cases h
theorem compO_ok {rec : Cp → Expr → Option EF} (hE : ∀ C e f, rec C e = some f → OkE R C e f) {C : Cp} {X : Cx} {W : WX} (o : CxOk R C X W) {e : Expr} {f : EF} (h : compO rec C e = some f) : SE R X W e f := by
  unfold compO at h
  split at h
  · rename_i a b pos
    split at h
    · rename_i hc
      simp only [Bool.and_eq_true, Bool.not_eq_true'] at hc
      obtain ⟨_, hh, hb⟩ := hc
      split at h
      · rename_i f1 f2 e1 e2
        cases h
        obtain ⟨t, h1, h2⟩ := hE C _ f1 e1 X W o
        obtain ⟨u, h3, h4⟩ := hE C _ f2 e2 X W o
        exact ⟨_, pe_ownEq o.tk h1 h3 hb, sim_ownEq (o.meth hh "__eq__") h2 h4⟩
      · cases h
    · cases h
  · rename_i a b pos
    split at h
    · rename_i hc
      simp only [Bool.and_eq_true, Bool.not_eq_true'] at hc
      obtain ⟨_, hh, hb⟩ := hc
      split at h
      · rename_i f1 f2 e1 e2
        cases h
        obtain ⟨t, h1, h2⟩ := hE C _ f1 e1 X W o
        obtain ⟨u, h3, h4⟩ := hE C _ f2 e2 X W o
        exact ⟨_, pe_ownIx o.tk h1 h3 (subT_no hb), sim_ownIx (o.meth hh "__getitem__") h2 h4⟩
      · cases h
    · cases h
  · rename_i x p e1 es pos
    split at h
    · rename_i hc
      simp only [Bool.and_eq_true, Bool.not_eq_true'] at hc
      obtain ⟨_, hh, hn⟩ := hc
      obtain ⟨n1, n2, n3⟩ := okName_ok hn
      split at h
      · rename_i fa e2
        obtain ⟨hs, t, h1, h2⟩ := cArgs_ok (hE C) o e2
        rw [List.all_cons, Bool.and_eq_true, Bool.not_eq_true'] at hs
        split at h
        · rename_i hl
          simp only [Bool.and_eq_true, decide_eq_true_eq] at hl
          obtain ⟨rfl, hg, hemp⟩ := hl
          have : es = [] := by simpa using hemp
          subst this
          cases h
          exact ⟨_, pe_ownLen o.tk (glB_ok o hg) (o.blt _ (by decide +kernel)) h1 (star_cons hs.1), sim_ownLen (o.meth hh "__len__") h2⟩
        · split at h
          · rename_i hl
            simp only [Bool.and_eq_true, decide_eq_true_eq] at hl
            obtain ⟨rfl, hg⟩ := hl
            cases h
            exact ⟨_, pe_callTy call_listIt (glB_ok o hg) (o.blt _ (by decide +kernel)) (by decide +kernel) h1 n3 n1 (star_cons hs.1) (star_any hs.2), sim_cb (ownList_s o.K (o.it hh)) h2⟩
          · split at h
            · split at h
              · rename_i fc e3
                cases h
                obtain ⟨t3, h5, h6⟩ := hE C _ fc e3 X W o
                exact ⟨_, pe_makeV h5 o.tk h1 (star_cons hs.1) (star_any hs.2), sim_makeV (fun c g hg => by
                  unfold mkT at hg
                  split at hg
                  · rename_i hm
                    obtain ⟨Ca, f, k, k1, k2, KF⟩ := o.made hh c g hm hg
                    exact ⟨Ca, f, k, k1, KF⟩
                  · cases hg) h6 h2⟩
              · cases h
            · cases h
      · cases h
    · cases h
  · rename_i ob m apos e1 es cpos
    split at h
    · rename_i hc
      simp only [Bool.and_eq_true, Bool.not_eq_true', decide_eq_true_eq] at hc
      obtain ⟨_, hh, hsu, hln, hlen⟩ := hc
      split at h
      · rename_i fo fa e3 e2
        cases h
        obtain ⟨t, h1, h2⟩ := hE C _ fo e3 X W o
        obtain ⟨hs, u, h3, h4⟩ := cArgs_ok (hE C) o e2
        have hf : methodCallForm ((e1 :: es).length + 0) (backTo cpos (starEach (e1 :: es) X.env)) (backToKw cpos (keywordEach [] X.env)) = true := by
          show ((backTo cpos (starEach (e1 :: es) X.env)).all (fun x => !x.1) && true && decide ((e1 :: es).length + 0 + 0 < 30)) = true
          rw [star_all hs]
          simp
          omega
        rw [List.all_cons, Bool.and_eq_true, Bool.not_eq_true'] at hs
        exact ⟨_, pe_cm h1 o.tk h3 (star_cons hs.1) (star_any hs.2) (meth_eq (base_no hsu) hf hln), sim_cm (o.cm hh m) h2 h4⟩
      · cases h
    · cases h
  · cases h
/-- the names of a written tuple of classes -/
theorem names_ok {C : Cp} {X : Cx} {W : WX} (o : CxOk R C X W) {c : Str} {Cc : Addr} (hc : R.cl c = some Cc) : ∀ {ms : List Expr} {ns : List Str} {b : Bool}, namesOf ms = some ns → (ns.all fun m => glB C.sc m && okName m) = true → isxAll C.isx c ns = some b →
    ∃ (t : TA) (zs : List V) (us : List Value), PA X ms t ∧ (∀ σ H Q, Q zs H → t σ H Q) ∧ zs.length = ns.length ∧ (∀ us', Vals zs us' → us' = us) ∧ PySem.W.kitAny X.K (.ref Cc) us = some b
  | [], ns, b, e, _, q => by
    cases e
    cases q
    exact ⟨_, [], [], pa_nil, fun σ H Q h => h, rfl, fun us' r => (by cases r; rfl), rfl⟩
  | m0 :: ms, ns, b, e, ha, q => by
    cases m0 with
    | Name m p =>
      unfold namesOf at e
      obtain ⟨ns', e1, rfl⟩ := Option.map_eq_some_iff.mp e
      rw [List.all_cons, Bool.and_eq_true, Bool.and_eq_true] at ha
      obtain ⟨⟨hm, hn⟩, ha2⟩ := ha
      unfold isxAll at q
      split at q
      · rename_i b1 b2 q1 q2
        cases q
        obtain ⟨n1, n2, n3⟩ := okName_ok hn
        obtain ⟨Cc', u, z, k1, k2, k3, k4, k5⟩ := o.isx c m b1 q1
        rw [hc] at k1
        cases k1
        obtain ⟨t, zs, us, h1, h2, h3, h4, h5⟩ := names_ok o hc e1 ha2 q2
        have hp : PE X (.Name m p) (tC z) := by
          rcases k2 with k2 | ⟨k2, k6⟩
          · exact pe_glob (glB_ok o hm) k2 k3 n1
          · exact pe_bltn (glB_ok o hm) k2 k6 k3 n3 n1
        refine ⟨_, z :: zs, u :: us, pa_cons hp h1, fun σ H Q h => h2 σ H _ h, by simp [h3], fun us' r => ?_, ?_⟩
        · match r with
          | .cons r1 r2 => rw [k4 _ r1, h4 _ r2]
        · unfold PySem.W.kitAny
          rw [k5]
          cases b1 with
          | true => rfl
          | false => exact h5
      · cases q
    | _ => cases e
theorem isxT_ok {C : Cp} {X : Cx} {W : WX} (o : CxOk R C X W) {y c : Str} {ns : List Str} {ms : List Expr} {fs : List (Str × AV)} {p0 p1 p2 pos : Pos} {k : Nat} (h : C.exv = some (y, c, fs)) (hg : glB C.sc "isinstance" = true) (hv : visB C.sc y = true) (ho : okName y = true) (hm : namesOf ms = some ns) (ha : (ns.all fun m => glB C.sc m && okName m) = true) (hl : ns.length ≤ 20) :
    SE R X W (.Call (.Name "isinstance" p0) [.Name y p1, .Tuple ms k p2] [] pos) (eIsxT C.isx c ns) := by
  cases e : isxAll C.isx c ns with
  | none =>
    refine ⟨_, ⟨fun pins s σ H Q I h => False.elim h⟩, fun σ ℓ H ι A Q L M q => ?_⟩
    unfold eIsxT at q
    rw [e] at q
    exact q
  | some b =>
    obtain ⟨X0, a, oe, cls, d, pn, rfl, hz, hd, ⟨Ca, dd, fs', h1, rfl, rfl, T, h3, h4⟩, i, hi, hxs⟩ := o.exv y c fs h
    obtain ⟨t, zs, us, k1, k2, k3, k4, k5⟩ := names_ok o h1 hm ha e
    have he : PE (X0.suite a ((a, oe) :: pn)) (.Name y p1) (tVar i) := pe_var (by rw [o.N]; exact slotOf_ok hi) (by rw [o.sc]; exact visB_ok hv) (okName_ok ho).1 (okName_ok ho).2.1
    refine ⟨_, pe_callB (Sx.call_isXT (X := X0) T hz hd) (glB_ok o hg) (o.blt _ (by decide +kernel)) (by decide +kernel) (pa_cons he (pa_cons (pe_tup k1) pa_nil)) (by decide) (by decide) rfl rfl, fun σ ℓ H ι A Q L M q => ?_⟩
    unfold eIsxT at q
    rw [e] at q
    refine ⟨_, L.2.2 i _ hxs, k2 _ _ _ ⟨by rw [k3, sizeLine_eq]; omega, fun p hp => ?_⟩⟩
    have M1 : Emb R ι A (upd H p (.tup zs)) := M.laid hp
    obtain ⟨h5, h6⟩ := h4 ι _ M1.inv
    exact ⟨p, zs, us, b, fs', rfl, .inl (.inl upd_same), k4, k5, h5, q _ _ _ (Up.laid hp) M1 mk_bl⟩
theorem compV_ok {rec : Cp → Expr → Option EF} (hE : ∀ C e f, rec C e = some f → OkE R C e f) {C : Cp} {X : Cx} {W : WX} (o : CxOk R C X W) {e : Expr} {f : EF} (h : compV rec C e = some f) : SE R X W e f := by
  unfold compV at h
  split at h
  · rename_i a b pos
    split at h
    · rename_i hc
      simp only [Bool.and_eq_true, Bool.not_eq_true'] at hc
      obtain ⟨_, hh, hb⟩ := hc
      split at h
      · rename_i f1 f2 e1 e2
        cases h
        obtain ⟨t, h1, h2⟩ := hE C _ f1 e1 X W o
        obtain ⟨u, h3, h4⟩ := hE C _ f2 e2 X W o
        exact ⟨_, pe_ownIn o.tk h1 h3 hb, sim_ownIn (o.meth hh "__contains__") h2 h4⟩
      · cases h
    · cases h
  · rename_i x p e1 pos
    split at h
    · rename_i hc
      simp only [Bool.and_eq_true, Bool.not_eq_true'] at hc
      obtain ⟨hh, hg⟩ := hc
      split at h
      · rename_i fa e2
        obtain ⟨hs, t, h1, h2⟩ := cArgs_ok (hE C) o e2
        rw [List.all_cons, Bool.and_eq_true, Bool.not_eq_true'] at hs
        split at h
        · rename_i hl
          have := of_decide_eq_true hl
          subst this
          cases h
          obtain ⟨r, h3, h4⟩ := bRepr_s (R := R) (X := X) o.K o.sys (o.room hh)
          exact ⟨_, pe_callB h3 (glB_ok o hg) (o.blt _ (by decide +kernel)) (by decide +kernel) h1 (by decide) (by decide) (star_cons hs.1) (star_any hs.2), sim_cb h4 h2⟩
        · split at h
          · rename_i hl
            simp only [Bool.and_eq_true, decide_eq_true_eq] at hl
            obtain ⟨rfl, _⟩ := hl
            cases h
            exact ⟨_, pe_callTy call_listK (glB_ok o hg) (o.blt _ (by decide +kernel)) (by decide +kernel) h1 (by decide) (by decide) (star_cons hs.1) (star_any hs.2), sim_cb (ownListN_s o.K (o.itn hh)) h2⟩
          · cases h
      · cases h
    · cases h
  · rename_i x p0 y p1 ms k p2 pos
    split at h
    · rename_i z c fs ns e1 e2
      split at h
      · rename_i hc
        obtain ⟨rfl, rfl, h1, h2, h3, h4, h5⟩ := hc
        cases h
        exact isxT_ok o e1 h1 h2 h3 e2 h4 h5
      · cases h
    · cases h
  · cases h
    refine ⟨_, pe_dnewK, fun σ ℓ H ι A Q L M q p hp => ?_⟩
    have q' : Then R (VR R) (.ok (.ref A.length) (A ++ [.dct []])) ι H Q (fun c d H' => W c d σ H') := q
    exact q' (ι ++ [p]) _ _ (Up.grow hp) (M.grow hp ⟨[], upd_same, by unfold KR; rfl⟩) (mk_ref (by rw [← M.len]; simp))
  · rename_i ob m apos es cpos
    split at h
    · rename_i hc
      simp only [Bool.and_eq_true, Bool.not_eq_true', decide_eq_true_eq] at hc
      obtain ⟨_, hh, hsu, hln, hlen, _⟩ := hc
      split at h
      · rename_i fo fa e3 e2
        cases h
        obtain ⟨t, h1, h2⟩ := hE C _ fo e3 X W o
        obtain ⟨hs, u, h3, h4⟩ := cArgs_ok (hE C) o e2
        have hf : methodCallForm (es.length + 0) (backTo cpos (starEach es X.env)) (backToKw cpos (keywordEach [] X.env)) = true := by
          show ((backTo cpos (starEach es X.env)).all (fun x => !x.1) && true && decide (es.length + 0 + 0 < 30)) = true
          rw [star_all hs]
          simp
          omega
        cases es with
        | nil =>
          have e4 : fa = aNil := by
            unfold cArgs at e2
            exact (Option.some.inj e2).symm
          subst e4
          exact ⟨_, pe_sm0 h1 o.tk (meth_eq (base_no hsu) hf hln), sim_sm (o.sm hh m) h2 sim_nil⟩
        | cons e es =>
          rw [List.all_cons, Bool.and_eq_true, Bool.not_eq_true'] at hs
          exact ⟨_, pe_sm h1 o.tk h3 (star_cons hs.1) (star_any hs.2) (meth_eq (base_no hsu) hf hln), sim_sm (o.sm hh m) h2 h4⟩
      · cases h
    · cases h
  · cases h
theorem compX_ok {rec : Cp → Expr → Option EF} (hE : ∀ C e f, rec C e = some f → OkE R C e f) {C : Cp} {X : Cx} {W : WX} (o : CxOk R C X W) {e : Expr} {f : EF} (h : compX rec C e = some f) : SE R X W e f := by
  unfold compX at h
  split at h
  · rename_i g e1
    cases h
    exact compV_ok hE o e1
  split at h
  · rename_i g e1
    cases h
    exact compJ_ok hE o e1
  · split at h
    · rename_i g e1
      cases h
      exact compK_ok hE o e1
    · split at h
      · rename_i g e1
        cases h
        exact compO_ok hE o e1
      · exact compI_ok hE o h
theorem comp_ok : ∀ n : Nat, (∀ C e f, compE n C e = some f → OkE R C e f) ∧ (∀ C e f, compT n C e = some f → OkT R C e f)
  | 0 => ⟨fun C e f h => (by unfold compE at h; cases h), fun C e f h => (by unfold compT at h; cases h)⟩
  | n + 1 => by
    obtain ⟨hE, hT⟩ := comp_ok n
    refine ⟨fun C e f h X W o => ?_, fun C e f h X W o => ?_⟩
    · unfold compE at h
      split at h
      · rename_i g ex
        cases h
        exact compX_ok hE o ex
      rename_i hxn
      clear hxn
      split at h
      · -- constants
        rename_i c k pos
        cases e1 : cConst c with
        | none => rw [e1] at h; cases h
        | some v => rw [e1] at h; cases h; exact cConst_ok e1
      · exact cName_ok o h
      · split at h
        · rename_i f1 f2 g e1 e2 e3
          cases h
          obtain ⟨t, h1, h2⟩ := hE C _ f1 e1 X W o
          obtain ⟨u, h3, h4⟩ := hE C _ f2 e2 X W o
          obtain ⟨r, h5, h6⟩ := binF_ok o e3
          exact ⟨_, pe_op h5 h1 h3, sim_op h2 h4 h6⟩
        · cases h
      · rename_i a pos
        cases e1 : compE n C a with
        | none => rw [e1] at h; cases h
        | some g =>
          rw [e1] at h
          cases h
          obtain ⟨t, h1, h2⟩ := hE C _ g e1 X W o
          exact ⟨_, pe_un un_neg h1, sim_un h2 uNeg_s⟩
      · rename_i a pos
        cases e1 : compE n C a with
        | none => rw [e1] at h; cases h
        | some g =>
          rw [e1] at h
          cases h
          obtain ⟨t, h1, h2⟩ := hE C _ g e1 X W o
          exact ⟨_, pe_not h1, sim_notV h2⟩
      · exact cBool_ok (hE C) o h
      · -- one comparison
        split at h
        · cases h
        · rename_i a op b pos hm
          split at h
          · rename_i f1 f2 e1 e2
            cases h
            obtain ⟨t, h1, h2⟩ := hE C _ f1 e1 X W o
            obtain ⟨u, h3, h4⟩ := hE C _ f2 e2 X W o
            obtain ⟨r, h5, h6⟩ := cmpG_ok o op b
            exact ⟨_, pe_cmpR h5 h1 h3 (by simpa using hm), sim_op h2 h4 h6⟩
          · cases h
      · -- a chain
        split at h
        · cases h
        · rename_i a op op' b c pos hm
          split at h
          · rename_i f1 f2 f3 e1 e2 e3
            cases h
            obtain ⟨t, h1, h2⟩ := hE C _ f1 e1 X W o
            obtain ⟨u, h3, h4⟩ := hE C _ f2 e2 X W o
            obtain ⟨v, h7, h8⟩ := hE C _ f3 e3 X W o
            obtain ⟨r, h5, h6⟩ := cmpF_ok o op
            obtain ⟨r', h9, h10⟩ := cmpF_ok o op'
            exact ⟨_, pe_chain h5 h9 h1 h3 h7 (by simpa using hm), sim_chain h6 h10 h2 h4 h8⟩
          · cases h
      · split at h
        · rename_i t f1 f2 e1 e2 e3
          cases h
          obtain ⟨tt, h1, h2⟩ := hT C _ t e1 X W o
          obtain ⟨u, h3, h4⟩ := hE C _ f1 e2 X W o
          obtain ⟨v, h5, h6⟩ := hE C _ f2 e3 X W o
          exact ⟨_, pe_ifExp h1 h3 h5, sim_if h2 h4 h6⟩
        · cases h
      · rename_i es pos
        cases e1 : cArgs (compE n C) es with
        | none => rw [e1] at h; cases h
        | some g =>
          rw [e1] at h
          cases h
          obtain ⟨_, t, h1, h2⟩ := cArgs_ok (hE C) o e1
          exact ⟨_, pe_lst h1, sim_lst h2⟩
      · rename_i es k pos
        cases e1 : cArgs (compE n C) es with
        | none => rw [e1] at h; cases h
        | some g =>
          rw [e1] at h
          cases h
          obtain ⟨_, t, h1, h2⟩ := cArgs_ok (hE C) o e1
          exact ⟨_, pe_tup h1, sim_tup h2⟩
      · -- a dict
        rename_i ks vs pos
        split at h
        · rename_i hk
          cases e1 : cPairs (compE n C) ks vs with
          | none => rw [e1] at h; cases h
          | some ps =>
            rw [e1] at h
            cases h
            obtain ⟨ha, ts, h1, h2⟩ := cPairs_ok (hE C) o (pos := pos) e1
            exact ⟨_, pe_disp h1 ha hk.1 hk.2.1 hk.2.2, sim_dct h2⟩
        · cases h
      · -- subscripts
        rename_i a b pos
        split at h
        · split at h
          · rename_i lo hi p2 f1 f2 f3 e1 e2 e3
            cases h
            obtain ⟨t, h1, h2⟩ := hE C _ f1 e1 X W o
            obtain ⟨u, h3, h4⟩ := cOpt_ok (hE C) o e2
            obtain ⟨v, h5, h6⟩ := cOpt_ok (hE C) o e3
            exact ⟨_, pe_slice sl_all h1 h3 h5, sim_sl (simSl o.K) h2 h4 h6⟩
          · cases h
        · split at h
          · cases h
          · rename_i hs
            split at h
            · rename_i f1 f2 e1 e2
              cases h
              obtain ⟨t, h1, h2⟩ := hE C _ f1 e1 X W o
              obtain ⟨u, h3, h4⟩ := hE C _ f2 e2 X W o
              exact ⟨_, pe_ix (ix_all o.hu) h1 h3 (plainIx_no (by simpa using hs)), sim_op h2 h4 (simIx o.K o.w o.gd)⟩
            · cases h
      · -- a field of the error
        split at h
        · rename_i z c fs ex
          split at h
          · rename_i hc
            cases h
            obtain ⟨rfl, h1, h2, h3⟩ := hc
            exact fld_ok o ex h1 h2 h3
          · cases h
        · cases h
      · -- a call of a name
        rename_i x p es pos
        split at h
        · rename_i hx
          unfold isExcTest at hx
          rw [Bool.and_eq_true, decide_eq_true_eq] at hx
          obtain ⟨rfl, hx2⟩ := hx
          unfold excTest at h
          split at h
          · rename_i z c fs y p1 m p2 ex
            split at h
            · rename_i hc
              cases h
              obtain ⟨rfl, h1, h2, h3, h4, h5⟩ := hc
              exact isx_ok o ex h1 h2 h3 h4 h5
            · cases h
          · cases h
        split at h
        · rename_i _ hx
          rw [Bool.and_eq_true, Bool.and_eq_true, Bool.not_eq_true'] at hx
          obtain ⟨n1, n2, n3⟩ := okName_ok hx.1.1
          have hg := glB_ok o hx.1.2
          have hmm : C.hot = false ∨ calmF x = false := by
            have z := hx.2
            cases hh : C.hot with
            | false => exact .inl rfl
            | true =>
              rw [hh] at z
              exact .inr (by simpa using z)
          split at h
          · rename_i fa e1
            obtain ⟨hs, t, h1, h2⟩ := cArgs_ok (hE C) o e1
            split at h
            · rename_i g e2
              split at h
              · cases h
              rename_i hh
              have hh : C.hot = false := by simpa using hh
              cases h
              obtain ⟨fa, F⟩ := o.funs x g e2
              cases es with
              | nil =>
                unfold cArgs at e1
                cases e1
                exact ⟨_, pe_callD0 F.ok (o.room hh) hg F.mg F.kp o.tk n1, sim_call F sim_nil⟩
              | cons e es =>
                rw [List.all_cons, Bool.and_eq_true, Bool.not_eq_true'] at hs
                exact ⟨_, pe_callD F.ok (o.room hh) hg F.mg F.kp o.tk h1 n1 (star_cons hs.1) (star_any hs.2), sim_call F h2⟩
            · split at h
              · cases h
              · cases e2 : bfun x with
                | none => rw [e2] at h; cases h
                | some g =>
                  rw [e2] at h
                  cases h
                  cases es with
                  | nil => rename_i hne; exact absurd rfl (hne)
                  | cons e es =>
                    rw [List.all_cons, Bool.and_eq_true, Bool.not_eq_true'] at hs
                    rcases bfun_ok o e2 hmm with ⟨id, r, k1, k2, k3, k4⟩ | ⟨T, r, k1, k2, k3, k4⟩
                    · exact ⟨_, pe_callB k3 hg k1 k2 h1 n3 n1 (star_cons hs.1) (star_any hs.2), sim_cb k4 h2⟩
                    · exact ⟨_, pe_callTy k3 hg k1 k2 h1 n3 n1 (star_cons hs.1) (star_any hs.2), sim_cb k4 h2⟩
          · cases h
        · cases h
      · -- a method of a built-in type
        rename_i ob m apos es cpos
        split at h
        · cases h
        · rename_i hc
          simp only [Bool.or_eq_true, not_or, Bool.not_eq_true, Bool.not_eq_true', Bool.not_eq_false, decide_eq_true_eq] at hc
          split at h
          · rename_i T g f1 f2 e1 e2 e3
            cases h
            obtain ⟨id, r, k1, k2, k3, k4, k5⟩ := bmeth_ok o e1
            obtain ⟨t, h1, h2⟩ := hE C ob f1 e2 X W o
            obtain ⟨hs, u, h3, h4⟩ := cArgs_ok (hE C) o e3
            cases es with
            | nil =>
              unfold cArgs at e3
              cases e3
              refine ⟨_, pe_bm0 k1 k2 k3 k4 h1 (base_no hc.1.1) hc.1.2, ?_⟩
              rw [o.K]
              exact sim_bm0 k5 h2
            | cons e es =>
              have hs0 := hs
              rw [List.all_cons, Bool.and_eq_true, Bool.not_eq_true'] at hs
              refine ⟨_, pe_bm k1 k2 k3 k4 h1 h3 (base_no hc.1.1) ?_ hc.1.2 (star_cons hs.1) (star_any hs.2), ?_⟩
              · rw [star_all hs0]
                have : (e :: es).length < 29 := hc.2
                show (true && true && decide ((e :: es).length + 0 + 0 < 30)) = true
                simp only [Bool.and_self, Bool.true_and, decide_eq_true_eq]
                omega
              · rw [o.K]
                exact sim_bm k5 h2 h4
          · cases h
      · -- a comprehension
        rename_i elt tg iter ifs scope pos
        split at h
        · cases h
        · rename_i hs
          rw [Bool.not_eq_true, Bool.or_eq_false_iff] at hs
          have hh := hs.2
          split at h
          · rename_i hb
            have ok := blkOk_by hb
            have hk : scope.kind = .function := ok.kind
            split at h
            · rename_i it is g t fe e1 e2 e3 e4
              split at h
              · rename_i hi
                cases h
                obtain ⟨ti, h1, h2⟩ := cIterT_ok (hE C) o (tg := tg) e1
                obtain ⟨tt, ht1, ht2⟩ : ∃ tt, (∀ (s : Shared) (H : Hp) (D : Addr) (cl : List (Str × Addr)) (fp : List Addr), PTs (X.blk s H scope (compEnvC scope cl D X.env) fp) ifs tt) ∧ Sim R eqR WF tt t := by
                  split at e3
                  · cases e3
                    exact ⟨_, fun _ _ _ _ _ => pts_nil, sim_yes⟩
                  · exact ⟨_, fun s H D cl fp => pts_one (hT _ _ t e3 _ _ (o.blk hh s H hk cl D fp)).canon, sim_cRd⟩
                  · cases e3
                have hg0 := fun s H D cl fp => cTargT_pg (o.blk hh s H hk cl D fp) hh e2
                exact ⟨_, pe_lc (o.calm hh) (by rw [o.N]; exact o.nd) h1 (by rw [o.N, o.sc]; exact ok) hg0 ht1 (fun s H D cl fp => (hE _ _ fe e4 _ _ (o.blk hh s H hk cl D fp)).canon) (setIt_no hs.1), sim_lc h2 (cTargT_sim e2 hi (o.nxs hh)) ht2 sim_cRd (o.nxs hh)⟩
              · cases h
            · cases h
          · cases h
      · cases h
    · unfold compT at h
      split at h
      · rename_i a pos
        cases e1 : compT n C a with
        | none => rw [e1] at h; cases h
        | some g =>
          rw [e1] at h
          cases h
          obtain ⟨t, h1, h2⟩ := hT C _ g e1 X W o
          exact ⟨_, pt_not h1, sim_not h2⟩
      · obtain ⟨t, h1, h2⟩ := cBoolT_ok (hT C) o h
        exact ⟨t, h1.pt, h2⟩
      · split at h
        · cases h
        · rename_i a op b pos hm
          split at h
          · rename_i f1 f2 e1 e2
            cases h
            obtain ⟨t, h1, h2⟩ := hE C _ f1 e1 X W o
            obtain ⟨u, h3, h4⟩ := hE C _ f2 e2 X W o
            obtain ⟨r, h5, h6⟩ := cmpG_ok o op b
            exact ⟨_, pt_cmpR h5 h1 h3 (by simpa using hm), sim_test (sim_op h2 h4 h6)⟩
          · cases h
      · split at h
        · cases h
        · rename_i a op op' b c pos hm
          split at h
          · rename_i f1 f2 f3 e1 e2 e3
            cases h
            obtain ⟨t, h1, h2⟩ := hE C _ f1 e1 X W o
            obtain ⟨u, h3, h4⟩ := hE C _ f2 e2 X W o
            obtain ⟨v, h7, h8⟩ := hE C _ f3 e3 X W o
            obtain ⟨r, h5, h6⟩ := cmpF_ok o op
            obtain ⟨r', h9, h10⟩ := cmpF_ok o op'
            exact ⟨_, pt_chain h5 h9 h1 h3 h7 (by simpa using hm), sim_test (sim_chain h6 h10 h2 h4 h8)⟩
          · cases h
      · split at h
        · rename_i hp
          cases e1 : compE n C _ with
          | none => rw [e1] at h; cases h
          | some g =>
            rw [e1] at h
            cases h
            obtain ⟨t, h1, h2⟩ := hE C _ g e1 X W o
            exact ⟨_, pt_truth h1 (plainT_ok hp), sim_tru o.K h2⟩
        · cases h
end
end Sh

set_option Elab.async false
set_option linter.all false
set_option maxRecDepth 100000
set_option maxHeartbeats 4000000
namespace Sh
open PySem L2 PyProof.Rows
/-! ### relations that differ in what is kept alone -/
structure Rc.Al (R R' : Rc) : Prop where
  K : R'.K = R.K
  cl : R'.cl = R.cl
  gdA : R'.gdA = R.gdA
  gdT : R'.gdT = R.gdT
section
variable {R R' : Rc} {ι : List Addr} {H : Hp}
mutual
theorem VR.cg (e : Rc.Al R R') : ∀ {a : AV} {x : V}, VR R ι H a x → VR R' ι H a x
  | .non, _, h => by unfold VR at h ⊢; exact h
  | .bl _, _, h => by unfold VR at h ⊢; exact h
  | .int _, _, h => by unfold VR at h ⊢; exact h
  | .str _, _, h => by unfold VR at h ⊢; exact h
  | .ty _, _, h => by unfold VR at h ⊢; exact h
  | .cls _, _, h => by unfold VR at h ⊢; rw [e.cl, e.K]; exact h
  | .ref n, _, h => by unfold VR at h ⊢; exact h
  | .tup xs, _, h => by
    unfold VR at h ⊢
    obtain ⟨p, vs, e1, q, r⟩ := h
    exact ⟨p, vs, e1, by rw [e.K]; exact q, VRs.cg e r⟩
  | .fl xs, _, h => by
    unfold VR at h ⊢
    obtain ⟨p, vs, e1, q, r⟩ := h
    exact ⟨p, vs, e1, by rw [e.K]; exact q, VRs.cg e r⟩
  | .gd _ _, _, h => by unfold VR at h ⊢; rw [e.gdA, e.gdT]; exact h
theorem VRs.cg (e : Rc.Al R R') : ∀ {as : List AV} {xs : List V}, VRs R ι H as xs → VRs R' ι H as xs
  | [], _, h => by unfold VRs at h ⊢; exact h
  | a :: as, _, h => by
    unfold VRs at h ⊢
    obtain ⟨v, r, e1, q, t⟩ := h
    exact ⟨v, r, e1, VR.cg e q, VRs.cg e t⟩
end
theorem FR.cg (e : Rc.Al R R') : ∀ {as : List (Str × AV)} {xs : List (Str × V)}, FR R ι H as xs → FR R' ι H as xs
  | [], _, h => by unfold FR at h ⊢; exact h
  | (f, a) :: as, _, h => by
    unfold FR at h ⊢
    obtain ⟨v, r, e1, q, t⟩ := h
    exact ⟨v, r, e1, VR.cg e q, FR.cg e t⟩
theorem KR.cg (e : Rc.Al R R') : ∀ {as : List (Key × AV)} {xs : List (Key × V)}, KR R ι H as xs → KR R' ι H as xs
  | [], _, h => by unfold KR at h ⊢; exact h
  | (f, a) :: as, _, h => by
    unfold KR at h ⊢
    obtain ⟨v, r, e1, q, t⟩ := h
    exact ⟨v, r, e1, VR.cg e q, KR.cg e t⟩
theorem OR.cg (e : Rc.Al R R') {a : Addr} {o : AO} (h : OR R ι H a o) : OR R' ι H a o := by
  cases o with
  | lst xs => unfold OR at h ⊢; obtain ⟨vs, h1, h2⟩ := h; exact ⟨vs, h1, h2.cg e⟩
  | dct xs => unfold OR at h ⊢; obtain ⟨vs, h1, h2⟩ := h; exact ⟨vs, h1, h2.cg e⟩
  | ins c fs => unfold OR at h ⊢; obtain ⟨C, dx, fs', h1, h2, h3⟩ := h; exact ⟨C, dx, fs', by rw [e.cl]; exact h1, h2, h3.cg e⟩
theorem Rc.Al.symm (e : Rc.Al R R') : Rc.Al R' R := ⟨e.K.symm, e.cl.symm, e.gdA.symm, e.gdT.symm⟩
theorem Emb.cg (e : Rc.Al R R') {A : AH} (m : Emb R ι A H) (j : R'.J ι H) : Emb R' ι A H := ⟨m.len, m.nd, fun n o a h1 h2 => (m.obj n o a h1 h2).cg e, j⟩
theorem UpK.cg {K K' : PySem.W.Frag} {ι' : List Addr} {H' : Hp} (e : K' = K) (u : UpK K ι ι' H H') : UpK K' ι ι' H H' := by rw [e]; exact u
end
/-- the relation within an except suite: the slot i holds the error at a, whose dict at dd bears fs -/
def Rc.su (R : Rc) (i : Nat) (a dd : Addr) (fs : List (Str × AV)) (fs' : List (Str × V)) : Rc :=
  { R with xs := some (i, .ref a), J := fun ι H => R.J ι H ∧ H dd = some (.xd fs') ∧ FR R ι H fs fs'
           Jst := fun ι τ H H' t f x h => ⟨R.Jst ι τ H H' t f x h.1, x _ _ h.2.1, (h.2.2.kp t f).pre ⟨τ, rfl⟩⟩ }
theorem su_al {R : Rc} {i : Nat} {a dd : Addr} {fs : List (Str × AV)} {fs' : List (Str × V)} : Rc.Al R (R.su i a dd fs fs') := ⟨rfl, rfl, rfl, rfl⟩
/-! ### readings by the functions -/
def cRdS (R : Rc) (W : WX) (f : SF) : TS := fun D σ H => ∃ ι A ℓ, LR R ι H ℓ σ ∧ Emb R ι A H ∧ ThenS R (f ℓ A) ι H D W
theorem SSs.canon {R : Rc} {X : Cx} {W : WX} {st : List Stmt} {f : SF} (h : SSs R X W st f) : PSs X st (cRdS R W f) := by
  obtain ⟨t, h1, h2⟩ := h
  exact ⟨fun pins s σ H D I ⟨ι, A, ℓ, L, M, q⟩ => h1.run pins s σ H D I (h2 D σ ℓ H ι A L M q)⟩
theorem ss_bad {R : Rc} {X : Cx} {W : WX} {st : List Stmt} : SSs R X W st sBad := ⟨_, ⟨fun pins s σ H D I h => False.elim h⟩, fun D σ ℓ H ι A L M q => q⟩
section
variable {R : Rc} {C : Cp} {X : Cx} {W : WX}
/-- raise x(e) -/
theorem ss_raise (o : CxOk R C X W) (hh : C.hot = false) {x f : Str} {e : Expr} {fe : EF} {p pos pos2 : Pos} (hx : C.exs.lookup x = some f) (hg : glB C.sc x = true) (hn : okName x = true) (hs : isStar e = false) (he : SE R X W e fe) :
    SS R X W (.Raise (some (.Call (.Name x p) [e] [] pos)) none pos2) (sRaise x f fe) := by
  obtain ⟨t, h1, h2⟩ := he
  obtain ⟨n1, n2, n3⟩ := okName_ok hn
  obtain ⟨Ca, fI, pn, msg, qual, k1, k2, T⟩ := o.exs x f hx
  refine ⟨_, ps_raise (o.calm hh) o.tk (Sx.pmk_sx T k1 (o.blt _ (by decide +kernel)) (o.room hh).out (pa_cons h1 pa_nil (star_cons hs)) (glB_ok o hg) n1 (star_cons hs)), fun D σ ℓ H ι A L M q => ?_⟩
  refine h2 σ ℓ H ι A _ L M ?_
  unfold sRaise at q
  cases e1 : fe ℓ A with
  | bad => rw [e1] at q; exact False.elim q
  | exc c fs A1 => rw [e1] at q; exact fun ι' H' cls d U' M' x' => q ι' H' σ cls d U' M' (L.up U') x'
  | ok v A1 =>
    rw [e1] at q
    intro ι' H' b U' M' r'
    refine ⟨b, rfl, fun d hd => ?_⟩
    have U2 : Up R ι' ι' H' (upd H' d (.xd [(f, b)])) := Up.laid hd
    refine q ι' _ σ _ _ (U'.trans U2) (M'.laid hd) ((L.up U').up U2) ⟨Ca, d, [(f, b)], k2, rfl, rfl, upd_same, ?_⟩
    unfold FR
    exact ⟨b, [], rfl, r'.up U2, by unfold FR; rfl⟩
theorem LR.toSu {ι : List Addr} {H : Hp} {ℓ : LSt} {σ : L2.St} {i : Nat} {a dd : Addr} {fs : List (Str × AV)} {fs' : List (Str × V)} (L : LR R ι H ℓ σ) (hi : i < σ.length) : LR (R.su i a dd fs fs') ι H (ℓ.set i none) (σ.set i (some (.ref a))) := by
  refine ⟨by rw [List.length_set, List.length_set]; exact L.1, fun j v e => ?_, fun j x e => ?_⟩
  · by_cases hj : i = j
    · subst hj
      rw [List.getElem?_set_self (by rw [L.1]; exact hi)] at e
      cases e
    · rw [List.getElem?_set_ne hj] at e
      rw [List.getElem?_set_ne hj]
      obtain ⟨x, h1, h2⟩ := L.2.1 j v e
      exact ⟨x, h1, h2.cg su_al⟩
  · cases e
    rw [List.getElem?_set_self hi]
theorem LR.ofSu {ι : List Addr} {H : Hp} {ℓ : LSt} {σ : L2.St} {i : Nat} {a dd : Addr} {fs : List (Str × AV)} {fs' : List (Str × V)} (L : LR (R.su i a dd fs fs') ι H ℓ σ) (hx : R.xs = none) : LR R ι H (ℓ.set i none) (σ.set i none) := by
  refine ⟨by rw [List.length_set, List.length_set]; exact L.1, fun j v e => ?_, fun j x e => by rw [hx] at e; cases e⟩
  by_cases hj : i = j
  · subst hj
    by_cases hl : i < ℓ.length
    · rw [List.getElem?_set_self hl] at e
      cases e
    · rw [List.getElem?_eq_none (by rw [List.length_set]; omega)] at e
      cases e
  · rw [List.getElem?_set_ne hj] at e
    rw [List.getElem?_set_ne hj]
    obtain ⟨x, h1, h2⟩ := L.2.1 j v e
    exact ⟨x, h1, h2.cg su_al.symm⟩
theorem lookup_mem_ne {α β : Type} [BEq α] [LawfulBEq α] {a : α} {b : β} : ∀ {l : List (α × β)}, (a, b) ∈ l → l.lookup a ≠ none
  | [], h, _ => by cases h
  | (c, d) :: r, h, e => by
    rw [List.lookup_cons] at e
    split at e
    · cases e
    · rename_i hne
      rcases List.mem_cons.mp h with z | z
      · cases z
        simp at hne
      · exact lookup_mem_ne z e
/-- the reading of a suite: of an error of class c with the fields fs -/
def suRd (R : Rc) (C : Cp) (i : Nat) (sf : Str → List (Str × AV) → SF) (a : Addr) (cls : Value) (d : Option Addr) : TS := fun D σ H => ∃ (c : Str) (fs : List (Str × AV)) (Ca dd : Addr) (fs' : List (Str × V)), R.cl c = some Ca ∧ cls = .ref Ca ∧ d = some dd ∧ Sx.IsC R.K Ca ∧ (∀ f ∈ C.flds, PySem.W.findIn R.K (.ref Ca) f = some none) ∧ cRdS (R.su i a dd fs fs') WF (sf c fs) D σ H
theorem ss_try (o : CxOk R C X W) (hh : C.hot = false) (ht : C.top = true) {body suite : List Stmt} {b0 : Stmt} {y m : Str} {i : Nat} {np pos pos' : Pos} {fb : SF} {sf : Str → List (Str × AV) → SF} (hi : slotOf C.N y = some i) (hl : C.sc.names.lookup y = some .local) (hg : glB C.sc m = true) (hn : okName m = true) (hca : (C.cat.any fun e => decide (e.1.2 = m)) = true)
    (hb : ∀ X' W', CxOk R C X' W' → SSs R X' W' body fb) (hs : ∀ c fs R' X', CxOk R' (C.su y c fs) X' WF → SSs R' X' WF (b0 :: suite) (sf c fs)) :
    SS R X W (.Try body [.ExceptHandler (some (.Name m np)) (some y) (b0 :: suite) pos'] [] [] pos) (sTry fb i (fun c => C.cat.lookup (c, m)) sf) := by
  obtain ⟨n1, n2, n3⟩ := okName_ok hn
  obtain ⟨s1, s2⟩ := o.stk hh ht
  have hc : ∃ c b, C.cat.lookup (c, m) = some b := by
    obtain ⟨⟨⟨c, m'⟩, b⟩, z1, z2⟩ := List.any_eq_true.mp hca
    have z3 : m' = m := of_decide_eq_true z2
    subst z3
    cases e : C.cat.lookup (c, m') with
    | some b' => exact ⟨c, b', e⟩
    | none => exact absurd e (lookup_mem_ne z1)
  · obtain ⟨c0, b0', hc0⟩ := hc
    obtain ⟨_, Cm, _, km, _⟩ := o.cat c0 m b0' hc0
    have hN : X.N[i]? = some y := by rw [o.N]; exact slotOf_ok hi
    refine ⟨_, ps_try_as (i := i) (c := .ref Cm) (tb := fun W' => cRdS R W' fb) (ts := suRd R C i sf) s1 s2 (by rw [o.N]; exact o.nd) hN (by show X.env.scope.names.lookup y = _; rw [o.sc]; exact hl) ⟨glB_ok o hg, n1, .inl km⟩ o.tk (fun W' pn xe tk pa => ?_) (fun a oe cls d pn hz hf => ?_), ?_⟩
    · refine (hb (X.tr pn xe) W' ⟨o.K, o.w, o.N, o.sc, o.kd, o.nd, o.calm, o.room, o.hu, o.nxs, o.nxv, tk, pa, o.fn, o.gd, fun x g h => ?_, o.cons, o.blt, o.exs, o.cat, o.isx, fun y c fs e => (by rw [o.nxv hh] at e; cases e), o.stk, o.xsl, o.fld, fun z m c g e => (by
        obtain ⟨Ca, f, k, h1, F⟩ := o.meth hh m c g e
        exact ⟨Ca, f, k, h1, ⟨F.c, F.hm, F.F, F.hr, F.x⟩⟩), fun z c g e1 e2 => (by
        obtain ⟨Ca, f, k, h1, h3, F⟩ := o.made hh c g e1 e2
        exact ⟨Ca, f, k, h1, h3, ⟨F.M, F.F, F.hr⟩⟩), fun z m c g e => (by
    obtain ⟨Ca, k, h1, F⟩ := o.cm hh m c g e
    exact ⟨Ca, k, h1, ⟨F.ex, F.hr⟩⟩), fun z c Fl g e1 e2 => (by
    obtain ⟨Ca, fi, ki, fl, kl, h1, ⟨a1, a2, a3, a4, a5⟩, h2, h3, h4⟩ := o.it hh c Fl g e1 e2
    exact ⟨Ca, fi, ki, fl, kl, h1, ⟨a1, a2, a3, a4, a5⟩, h2, h3, h4⟩), fun z m c g e => (by
    obtain ⟨Ca, k, h1, F⟩ := o.sm hh m c g e
    exact ⟨Ca, k, h1, ⟨F.ex, F.hr⟩⟩), fun z c Fl e => (by
    obtain ⟨Ca, fi, ki, h1, N⟩ := o.itn hh c Fl e
    exact ⟨Ca, fi, ki, h1, ⟨N.m, N.c, N.n, N.nolen, N.nohint, N.F, N.r⟩⟩), o.sys⟩).canon
      obtain ⟨f, F⟩ := o.funs x g h
      exact ⟨f, F.mg, F.kp, F.ok⟩
    · refine ⟨fun pins s σ H D I h => ?_⟩
      obtain ⟨c, fs, Ca, dd, fs', k1, rfl, rfl, T, k2, q⟩ := h
      refine ((hs c fs (R.su i a dd fs fs') (X.suite a ((a, oe) :: pn)) ⟨o.K, o.w, o.N, o.sc, o.kd, o.nd, fun z => (by cases z), fun z => (by cases z), o.hu, fun z => (by cases z), fun z => (by cases z), takes0, PassesOwn.never, o.fn, ?_, fun x g h => (by cases h), ?_, o.blt, fun x f h => (by cases h), fun c m b h => (by cases h), o.isx, ?_, fun z => (by cases z), ?_, o.fld, fun z => (by cases z), fun z => (by cases z), fun z => (by cases z), fun z => (by cases z), fun z => (by cases z), fun z => (by cases z), o.sys⟩).canon).run pins s σ H D I q
      · intro n kvs p e1 e2
        obtain ⟨g1, g2, g3⟩ := o.gd n kvs p e1 e2
        exact ⟨fun z v e3 => (by
          obtain ⟨y', h1, h2⟩ := g1 z v e3
          exact ⟨y', h1, fun ι H => (h2 ι H).cg su_al⟩), fun z v e3 => (by
          obtain ⟨y', h1, h2⟩ := g2 z v e3
          exact ⟨y', h1, fun ι H => (h2 ι H).cg su_al⟩), g3⟩
      · intro x v h
        obtain ⟨u, y', h1, h2, h3⟩ := o.cons x v h
        exact ⟨u, y', h1, h2, fun ι H => (h3 ι H).cg su_al⟩
      · intro y1 c1 fs1 e
        cases e
        exact ⟨X, a, oe, .ref Ca, some dd, pn, rfl, hz, hf, ⟨Ca, dd, fs', k1, rfl, rfl, by rw [show (X.suite a ((a, oe) :: pn)).K = R.K from o.K]; exact T, by rw [show (X.suite a ((a, oe) :: pn)).K = R.K from o.K]; exact k2, fun ι H j => ⟨j.2.1, j.2.2.cg su_al⟩⟩, i, hi, rfl⟩
      · intro j x e
        cases e
        exact ⟨y, c, fs, rfl, hi⟩
    · intro D σ ℓ H ι A L M q
      refine ⟨ι, A, ℓ, L, M, ?_⟩
      unfold sTry at q
      cases e1 : fb ℓ A with
      | nx ℓ' A' => rw [e1] at q; exact q
      | rt v A' => rw [e1] at q; exact q
      | bk ℓ' A' => rw [e1] at q; exact q
      | ct ℓ' A' => rw [e1] at q; exact q
      | bad => rw [e1] at q; exact q
      | exc c xs ℓ' A' =>
        rw [e1] at q
        intro ι' H' σ' cls d U' M' L' x'
        simp only at q
        cases e2 : C.cat.lookup (c, m) with
        | none => rw [e2] at q; exact False.elim q
        | some b =>
          rw [e2] at q
          obtain ⟨Cc, Cm', k1, k2, k3, k4, k5⟩ := o.cat c m b e2
          rw [km] at k2
          cases k2
          obtain ⟨C1, dd, fs', z1, rfl, rfl, z4, z5⟩ := x'
          rw [k1] at z1
          cases z1
          refine ⟨b, k3, fun hb1 a ha => ?_, fun hb1 => ?_⟩
          · subst hb1
            by_cases hil' : i < ℓ'.length
            case neg =>
              simp only [if_neg hil'] at q
              exact False.elim q
            simp only [if_pos hil'] at q
            have hil : i < σ'.length := by rw [← L'.1]; exact hil'
            refine ⟨c, xs, Cc, dd, fs', k1, rfl, rfl, by rw [← o.K]; exact k4, by rw [← o.K]; exact k5, ι', A', ℓ'.set i none, L'.toSu hil, M'.cg su_al ⟨M'.inv, z4, z5⟩, ?_⟩
            have nx := o.nxs hh
            cases e3 : sf c xs (ℓ'.set i none) A' with
            | nx ℓ2 A2 => rw [e3] at q; exact fun ι2 H2 σ2 U2 M2 L2' => q ι2 H2 _ (U'.trans U2) (M2.cg su_al.symm M2.inv.1) (L2'.ofSu nx)
            | bk ℓ2 A2 => rw [e3] at q; exact fun ι2 H2 σ2 U2 M2 L2' => q ι2 H2 _ (U'.trans U2) (M2.cg su_al.symm M2.inv.1) (L2'.ofSu nx)
            | ct ℓ2 A2 => rw [e3] at q; exact fun ι2 H2 σ2 U2 M2 L2' => q ι2 H2 _ (U'.trans U2) (M2.cg su_al.symm M2.inv.1) (L2'.ofSu nx)
            | rt v A2 => rw [e3] at q; exact fun ι2 H2 x U2 M2 r => q ι2 H2 x (U'.trans U2) (M2.cg su_al.symm M2.inv.1) (r.cg su_al.symm)
            | exc c2 fs2 ℓ2 A2 => rw [e3] at q; exact False.elim q
            | bad => rw [e3] at q; exact False.elim q
          · subst hb1
            exact q ι' H' σ' _ _ U' M' L' ⟨Cc, dd, fs', k1, rfl, rfl, z4, z5⟩
end
end Sh

set_option Elab.async false
set_option linter.all false
set_option maxRecDepth 100000
set_option maxHeartbeats 8000000
namespace Sh
open PySem L2 PyProof.Rows

section
variable {R : Rc}
/-- a comprehension's reading, as a value and as the value of an assignment to a local name -/
theorem lc_asg : ∀ {n : Nat} {C : Cp} {elt tg iter : Expr} {ifs : List Expr} {scope : Scope} {pos : Pos} {f : EF}, compE n C (.ListComp elt [⟨tg, iter, ifs, 0⟩] scope pos) = some f → ∀ {X : Cx} {W : WX}, CxOk R C X W →
    ∀ {i : Nat} {y : Str} {py spos : Pos}, X.N[i]? = some y → X.env.scope.names.lookup y = some .local → swapsWith (.ListComp elt [⟨tg, iter, ifs, 0⟩] scope pos) (some (.Name y py)) spos.line X.env = pure true →
    SS R X W (.Assign [.Name y py] (.ListComp elt [⟨tg, iter, ifs, 0⟩] scope pos) spos) (sSet i f)
  | 0, C, elt, tg, iter, ifs, scope, pos, f, h, X, W, o, j, y, py, spos, hj, hl, hsw => by unfold compE at h; cases h
  | n + 1, C, elt, tg, iter, ifs, scope, pos, f, h, X, W, o, j, y, py, spos, hj, hl, hsw => by
    obtain ⟨hE, hT⟩ := comp_ok (R := R) n
    unfold compE at h
    have hx : compX (compE n) C (.ListComp elt [⟨tg, iter, ifs, 0⟩] scope pos) = none := rfl
    rw [hx] at h
    simp only at h
    split at h
    · cases h
    · rename_i hs
      rw [Bool.not_eq_true, Bool.or_eq_false_iff] at hs
      have hh := hs.2
      split at h
      · rename_i hb
        have ok := blkOk_by hb
        have hk : scope.kind = .function := ok.kind
        split at h
        · rename_i it is g t fe e1 e2 e3 e4
          split at h
          · rename_i hi
            cases h
            obtain ⟨ti, h1, h2⟩ := cIterT_ok (hE C) o (tg := tg) e1
            obtain ⟨tt, ht1, ht2⟩ : ∃ tt, (∀ (s : Shared) (H : Hp) (D : Addr) (cl : List (Str × Addr)) (fp : List Addr), PTs (X.blk s H scope (compEnvC scope cl D X.env) fp) ifs tt) ∧ Sim R eqR WF tt t := by
              split at e3
              · cases e3
                exact ⟨_, fun _ _ _ _ _ => pts_nil, sim_yes⟩
              · exact ⟨_, fun s H D cl fp => pts_one (hT _ _ t e3 _ _ (o.blk hh s H hk cl D fp)).canon, sim_cRd⟩
              · cases e3
            have hg0 := fun s H D cl fp => cTargT_pg (o.blk hh s H hk cl D fp) hh e2
            exact ⟨_, ps_setLc (o.calm hh) (by rw [o.N]; exact o.nd) hj hl hsw h1 (by rw [o.N, o.sc]; exact ok) hg0 ht1 (fun s H D cl fp => (hE _ _ fe e4 _ _ (o.blk hh s H hk cl D fp)).canon) (setIt_no hs.1), simS_set (sim_lc h2 (cTargT_sim e2 hi (o.nxs hh)) ht2 sim_cRd (o.nxs hh)) (fun y e => by rw [o.nxs hh] at e; cases e)⟩
          · cases h
        · cases h
      · cases h
theorem swapsB_ok {C : Cp} {X : Cx} {W : WX} (o : CxOk R C X W) {y : Str} {py pos : Pos} {scope : Scope} {elt : Expr} {gs : List Comprehension} {l : Nat} (h : swapsB C y py pos scope = true) :
    X.env.scope.names.lookup y = some .local ∧ swapsWith (.ListComp elt gs scope pos) (some (.Name y py)) l X.env = pure true := by
  unfold swapsB at h
  simp only [Bool.and_eq_true, Bool.not_eq_true', decide_eq_true_eq] at h
  have hl : X.env.scope.names.lookup y = some .local := by rw [o.sc]; exact h.1.1
  exact ⟨hl, sw_true (by rw [o.sc]; exact o.kd) hl h.1.2 h.2⟩
theorem swapsSole_sub {e o i : Expr} {p : Pos} {l : Nat} {env : Env} : swapsWithSole [.Subscript o i p] e l env = pure false := swaps_sub (o := o) (i := i) (p := p) (l := l) (env := env)
theorem asg_sub {o i : Expr} {pos : Pos} {env : Env} (h : isSl i = false) (v : Value) : assign (.Subscript o i pos) env v = (do
      let ov ← holding [v] (eval o env)
      let iv ← holding [v, ov] (eval i env)
      standAt pos
      holding [v, ov, iv] (setItem ov iv v)
      release [v, ov, iv] []) := by
  cases i <;> first | rfl | cases h
theorem nx_of {C : Cp} {X : Cx} {W : WX} (o : CxOk R C X W) {x : Str} {i : Nat} (hi : slotOf C.N x = some i) (hx : isExv C x = false) : ∀ y, R.xs ≠ some (i, y) := fun y e => by
  obtain ⟨z, c, fs, h1, h2⟩ := o.xsl i y e
  have h3 := slotOf_ok hi
  rw [slotOf_ok h2] at h3
  have h4 : z = x := Option.some.inj h3
  unfold isExv at hx
  rw [h1] at hx
  simp [h4] at hx
theorem compS_ok : ∀ n : Nat, ∀ {R : Rc}, (∀ C st f, compS n C st = some f → ∀ X W, CxOk R C X W → SS R X W st f) ∧ (∀ C st f, compSs n C st = some f → ∀ X W, CxOk R C X W → SSs R X W st f)
  | 0, R => ⟨fun C e f h => (by unfold compS at h; cases h), fun C e f h => (by unfold compSs at h; cases h)⟩
  | n + 1, R => by
    obtain ⟨hS, hSs⟩ := compS_ok n (R := R)
    obtain ⟨hE, hT⟩ := comp_ok (R := R) n
    refine ⟨fun C st f h X W o => ?_, fun C st f h X W o => ?_⟩
    · unfold compS at h
      split at h
      · rename_i e pos
        split at h
        · cases h
        · rename_i hc
          cases e1 : compE n C e with
          | none => rw [e1] at h; cases h
          | some g =>
            rw [e1] at h
            cases h
            obtain ⟨t, h1, h2⟩ := hE C _ g e1 X W o
            exact ⟨_, ps_expr h1 (swaps_no (by simpa using hc)), simS_expr h2⟩
      · cases h
        exact ⟨_, ps_retN, simS_retN⟩
      · rename_i e pos
        cases e1 : compE n C e with
        | none => rw [e1] at h; cases h
        | some g =>
          rw [e1] at h
          cases h
          obtain ⟨t, h1, h2⟩ := hE C _ g e1 X W o
          exact ⟨_, ps_ret h1, simS_ret h2⟩
      · split at h
        · rename_i t f1 f2 e1 e2 e3
          cases h
          obtain ⟨tt, h1, h2⟩ := hT C _ t e1 X W o
          obtain ⟨u, h3, h4⟩ := hSs C _ f1 e2 X W o
          obtain ⟨v, h5, h6⟩ := hSs C _ f2 e3 X W o
          exact ⟨_, ps_if h1 h3 h5, simS_if h2 h4 h6⟩
        · cases h
      · -- a name
        rename_i x px e pos
        split at h
        · rename_i hl
          rw [Bool.and_eq_true, Bool.not_eq_true'] at hl
          obtain ⟨l1, l2⟩ := locB_ok o hl.1
          split at h
          · rename_i i g e1 e2
            have hi : X.N[i]? = some x := by rw [o.N]; exact slotOf_ok e1
            have hN : X.N.Nodup := by rw [o.N]; exact o.nd
            split at h
            · split at h
              · split at h
                · rename_i hsw
                  cases h
                  obtain ⟨q1, q2⟩ := swapsB_ok o hsw
                  exact lc_asg e2 o hi q1 q2
                · cases h
              · cases h
            · rename_i hc
              cases h
              obtain ⟨t, h1, h2⟩ := hE C _ g e2 X W o
              exact ⟨_, ps_set hN hi l1 h1 (swaps_no (by simpa using hc)) l2, simS_set h2 (nx_of o e1 hl.2)⟩
          · cases h
        · cases h
      · -- o[i] = e
        split at h
        · rename_i hw
          simp only [Bool.and_eq_true, Bool.not_eq_true'] at hw
          split at h
          · split at h
            · rename_i f1 f2 f3 f4 e1 e2 e3 e4
              cases h
              obtain ⟨t, h1, h2⟩ := hE C _ f1 e1 X W o
              obtain ⟨u, h3, h4⟩ := hE C _ f2 e2 X W o
              obtain ⟨v, h5, h6⟩ := hE C _ f3 e3 X W o
              obtain ⟨w, h7, h8⟩ := hE C _ f4 e4 X W o
              exact ⟨_, ps_setSl h1 h3 h5 h7 swapsSole_sub, simS_setSl h2 h4 h6 h8⟩
            · cases h
          · split at h
            · cases h
            · rename_i hs
              split at h
              · rename_i f1 f2 f3 e1 e2 e3
                cases h
                obtain ⟨t, h1, h2⟩ := hE C _ f1 e1 X W o
                obtain ⟨u, h3, h4⟩ := hE C _ f2 e2 X W o
                obtain ⟨v, h5, h6⟩ := hE C _ f3 e3 X W o
                exact ⟨_, ps_ownSet o.tk h1 h3 h5 (asg_sub (by simpa using hs)) swapsSole_sub, simS_ownSet (o.meth hw.2 "__setitem__") h2 h4 h6⟩
              · cases h
        split at h
        · cases h
        · rename_i hs
          split at h
          · rename_i f1 f2 f3 e1 e2 e3
            cases h
            obtain ⟨t, h1, h2⟩ := hE C _ f1 e1 X W o
            obtain ⟨u, h3, h4⟩ := hE C _ f2 e2 X W o
            obtain ⟨v, h5, h6⟩ := hE C _ f3 e3 X W o
            exact ⟨_, ps_asg h1 (pg_sub h3 h5 (pset_e o.hu) (asg_sub (by simpa using hs))) swapsSole_sub, simS_sub h2 h4 h6⟩
          · cases h
      · -- o.f = e
        split at h
        · cases h
        · rename_i hc
          rw [Bool.not_eq_true, Bool.or_eq_false_iff] at hc
          split at h
          · rename_i f1 f2 e1 e2
            cases h
            obtain ⟨t, h1, h2⟩ := hE C _ f1 e1 X W o
            obtain ⟨u, h3, h4⟩ := hE C _ f2 e2 X W o
            exact ⟨_, ps_fld h3 h1 swaps_att, simS_fldS (o.fld _) h4 h2⟩
          · cases h
      · -- a, b = e
        split at h
        · cases h
        · rename_i hc
          simp only [Bool.or_eq_true, not_or, Bool.not_eq_true] at hc
          split at h
          · rename_i is f1 e1 e2
            cases h
            obtain ⟨t, h1, h2⟩ := hE C _ f1 e2 X W o
            obtain ⟨g, g1, g2⟩ := tup_ok o hc.1.1 e1
            exact ⟨_, ps_asg h1 g1 (swapsSole_no hc.2) (swapped_no hc.1.2) rfl, simS_tup h2 g2⟩
          · cases h
      · -- for a, b in e
        split at h
        · cases h
        · rename_i hc
          rw [Bool.not_eq_true, Bool.or_eq_false_iff] at hc
          split at h
          · rename_i it is f1 e1 e2 e3
            cases h
            obtain ⟨ti, h1, h2⟩ := cIterT_ok (hE C) o e1
            obtain ⟨g, g1, g2⟩ := tup_ok o hc.2 e2
            obtain ⟨u, h5, h6⟩ := hSs C _ f1 e3 X W o
            exact ⟨_, ps_for o.hp (o.calm hc.2) h1 g1 h5 (setIt_no hc.1), simS_for h2 g2 h6⟩
          · cases h
      · split at h
        · cases h
        · rename_i hs
          rw [Bool.not_eq_true, Bool.or_eq_false_iff] at hs
          have hh := hs.2
          split at h
          · rename_i it i g f1 e1 e2 e3
            cases h
            obtain ⟨ti, h1, h2⟩ := cIter_ok (hE C) o e1
            obtain ⟨rfl, h3⟩ := cTarget_ok o e2
            obtain ⟨v, h5, h6⟩ := hSs C _ f1 e3 X W o
            exact ⟨_, ps_for o.hp (o.calm hh) h1 h3 h5 (setIt_no hs.1), simS_for h2 (simG_name fun y e => by rw [o.nxs hh] at e; cases e) h6⟩
          · cases h
      · split at h
        · rename_i t f1 e1 e2
          cases h
          obtain ⟨tt, h1, h2⟩ := hT C _ t e1 X W o
          obtain ⟨v, h5, h6⟩ := hSs C _ f1 e2 X W o
          exact ⟨_, ps_while o.hp h1 h5, simS_while h2 h6⟩
        · cases h
      · -- raise
        split at h
        · cases h
        · rename_i hc
          simp only [Bool.or_eq_true, not_or, Bool.not_eq_true, Bool.not_eq_true', Bool.not_eq_false] at hc
          split at h
          · rename_i f1 fe e1 e2
            cases h
            exact ss_raise o hc.1.1.1 e1 hc.1.2 hc.2 hc.1.1.2 (hE C _ fe e2 X W o)
          · cases h
      · -- try
        split at h
        · cases h
        · rename_i hc
          simp only [Bool.or_eq_true, not_or, Bool.not_eq_true, Bool.not_eq_true', Bool.not_eq_false, decide_eq_true_eq] at hc
          split at h
          · rename_i i fb e1 e2
            cases h
            refine ss_try o hc.1.1.1.1.1 hc.1.1.1.1.2 e1 hc.1.1.1.2 hc.1.1.2 hc.1.2 hc.2 (fun X' W' o' => hSs C _ fb e2 X' W' o') (fun c fs R' X' o' => ?_)
            cases e3 : compSs n (C.su _ c fs) _ with
            | none => exact ss_bad
            | some sf => exact (compS_ok n (R := R')).2 _ _ sf e3 X' WF o'
          · cases h
      · cases h; exact ⟨_, ps_pass, simS_next⟩
      · cases h; exact ⟨_, ps_break, simS_brk⟩
      · cases h; exact ⟨_, ps_continue, simS_cnt⟩
      · cases h
    · unfold compSs at h
      split at h
      · cases h; exact ⟨_, pss_nil, simS_next⟩
      · obtain ⟨t, h1, h2⟩ := hS C _ f h X W o
        exact ⟨_, pss_one h1, h2⟩
      · split at h
        · rename_i f1 f2 e1 e2
          cases h
          obtain ⟨t, h1, h2⟩ := hS C _ f1 e1 X W o
          obtain ⟨u, h3, h4⟩ := hSs C _ f2 e2 X W o
          exact ⟨_, pss_cons h1 h3, simS_seq h2 h4⟩
        · cases h
end

/-! ### a def -/
def runFn (body : SF) (nN : Nat) : Fn := fun as A => match body (as.map some ++ List.replicate (nN - as.length) none) A with
  | .nx _ A' => .ok .non A'
  | .rt v A' => .ok v A'
  | .exc c fs _ A' => .exc c fs A'
  | _ => .bad
theorem LR.start {R : Rc} {ι : List Addr} {H : Hp} {N : List Str} : ∀ {as : List AV} {vs : List V}, VRs R ι H as vs → R.xs = none → LR R ι H (as.map some ++ List.replicate (N.length - as.length) none) (L2.start N vs) := fun {as vs} r hxs => by
  refine ⟨by unfold L2.start; rw [List.length_append, List.length_append, List.length_map, List.length_map, List.length_replicate, List.length_replicate, r.length], fun i v e => ?_, fun i x e => by rw [hxs] at e; cases e⟩
  have hi : i < as.length := by
    by_cases hi : i < as.length
    · exact hi
    · rw [List.getElem?_append_right (by simpa using hi), List.getElem?_replicate] at e
      split at e <;> cases e
  rw [List.getElem?_append_left (by simpa using hi), List.getElem?_map] at e
  cases e1 : as[i]? with
  | none => rw [e1] at e; cases e
  | some a =>
    rw [e1] at e
    cases e
    obtain ⟨x, e2, r2⟩ := r.get e1
    refine ⟨x, ?_, r2⟩
    unfold L2.start
    rw [List.getElem?_append_left (by rw [List.length_map, ← r.length]; exact hi), List.getElem?_map, e2]
    rfl
/-- classes with instances: fields that no class has as a name of its own, methods, classes that are made -/
structure Cs where
  noat : List (Str × Str) := []
  meths : List ((Str × Str) × GF) := []
  mkc : List Str := []
  own : List Pos := []
  cms : List ((Str × Str) × GF) := []
  itf : List (Str × Str) := []
  sms : List ((Str × Str) × GF) := []
  itn : List (Str × Str) := []
/-- what a module's table says of the names, over a base -/
structure TabOk (R : Rc) (P : Program) (mg : Str → Option Value) (base : Heap) (k : Nat) (funs : List (Str × GF)) (cons : List (Str × AV)) (S : Cs := {}) : Prop where
  gd : GdOk R
  funs : ∀ x g, funs.lookup x = some g → ∃ f, mg x = some (.ref f) ∧ PySem.W.keepIn R.K (.ref f) = true ∧ FnR P R.w R.K mg base (L2.CX P R.w) k f (SpG R g)
  cons : ∀ x v, cons.lookup x = some v → ∃ u y, mg x = some u ∧ RelV y u ∧ ∀ ι H, VR R ι H v y
  blt : ∀ x ∈ bltNames, mg x = none
  fld : ∀ f, FldOk R R.K (fun c => S.noat.contains (c, f)) f
  meth : ∀ m c g, S.meths.lookup (c, m) = some g → ∃ (Ca f : Addr) (j : Nat), j + 4 ≤ k ∧ R.cl c = some Ca ∧ Cls R.K Ca ∧ Meth R.K Ca m f ∧ FnR P R.w R.K mg base (L2.CX P R.w) j f (SpG R g) ∧ ClsX R.K Ca
  made : ∀ c g, S.mkc.contains c = true → S.meths.lookup (c, ("__init__" : Str)) = some g → ∃ (Ca f : Addr) (j : Nat), j + 1 ≤ k ∧ R.cl c = some Ca ∧ mg c = some (.ref Ca) ∧ Mk R.K Ca f ∧ FnR P R.w R.K mg base (L2.CX P R.w) j f (SpG R g)
  cm : ∀ c m g, S.cms.lookup (c, m) = some g → ∃ (Ca : Addr) (mc : Value) (p f : Addr), R.cl c = some Ca ∧ ClX.CRead R.K Ca mc ∧ ClX.CMet R.K Ca mc m p f ∧ FnR P R.w R.K mg base (L2.CX P R.w) k f (SpG R g)
  it : ∀ c F, S.itf.lookup c = some F → ∃ (Ca fi : Addr) (ki : Nat), ki + 4 ≤ k ∧ R.cl c = some Ca ∧ Meth R.K Ca "__iter__" fi ∧ Cls R.K Ca ∧ NoAttr R.K Ca F ∧ FnR P R.w R.K mg base (L2.CX P R.w) ki fi (spIt R.K F)
  sm : ∀ c m g, S.sms.lookup (c, m) = some g → ∃ (Ca : Addr) (mc : Value) (p f : Addr), R.cl c = some Ca ∧ ClX.CRead R.K Ca mc ∧ SMet R.K Ca mc m p f ∧ FnR P R.w R.K mg base (L2.CX P R.w) k f (SpG R g)
  itn : ∀ c F, S.itn.lookup c = some F → ∃ (Ca fi : Addr) (ki : Nat), ki + 4 ≤ k ∧ R.cl c = some Ca ∧ Meth R.K Ca "__iter__" fi ∧ Cls R.K Ca ∧ NoAttr R.K Ca F ∧ PySem.W.findIn R.K (.ref Ca) "__len__" = some none ∧ PySem.W.findIn R.K (.ref Ca) "__length_hint__" = some none ∧ ∀ b, FnR P R.w R.K mg base (L2.CX P R.w) ki fi (spItK b R.K F)
  sys : SysD R.K
/-- what is told of the classes of errors -/
structure Xt where
  exs : List (Str × Str) := []
  cat : List ((Str × Str) × Bool) := []
  isx : List ((Str × Str) × Bool) := []
  flds : List Str := []
structure XtOk (R : Rc) (P : Program) (mg : Str → Option Value) (E : Xt) : Prop where
  exs : ∀ x f, E.exs.lookup x = some f → ∃ Ca fI p msg qual, mg x = some (.ref Ca) ∧ R.cl x = some Ca ∧ Sx.Tx P R.K Ca fI f p msg qual
  cat : ∀ c m b, E.cat.lookup (c, m) = some b → ∃ Cc Cm, R.cl c = some Cc ∧ mg m = some (.ref Cm) ∧ PySem.W.exmOne R.K (.ref Cc) (.ref Cm) = some b ∧ Sx.IsC R.K Cc ∧ ∀ f ∈ E.flds, PySem.W.findIn R.K (.ref Cc) f = some none
  isx : ∀ c m b, E.isx.lookup (c, m) = some b → ∃ Cc u y, R.cl c = some Cc ∧ (mg m = some u ∨ (mg m = none ∧ bootBuiltins m = some u)) ∧ RelV y u ∧ (∀ u', RelV y u' → u' = u) ∧ PySem.W.kitOne R.K (.ref Cc) u = some b
def cpOf (N : List Str) (sc : Scope) (k : Nat) (funs : List (Str × GF)) (cons : List (Str × AV)) (E : Xt := {}) (S : Cs := {}) : Cp := { N := N, sc := sc, k := k, fnB := fun _ => true, funs := funs, cons := cons, exs := E.exs, cat := E.cat, isx := E.isx, flds := E.flds, noat := S.noat, meths := S.meths, mkc := S.mkc, own := S.own, cms := S.cms, itf := S.itf, sms := S.sms, itn := S.itn }
end Sh

set_option Elab.async false
set_option linter.all false
set_option maxRecDepth 100000
set_option maxHeartbeats 4000000
namespace Sh
open PySem PySem.Spec PyProof.Rows L2
/-- the script alone is tracked, where it is none of the written objects -/
def frz1 (K : PySem.W.Frag) (a : Addr) (ob : Obj) (xs : List V) : Hp := fun b => if b = a ∧ K.lookup a = none then some (.frz ob (.lst xs)) else none
section
variable {K : PySem.W.Frag} {a b : Addr} {ob : Obj} {xs : List V} {u : HO}
theorem frz1_at (h : frz1 K a ob xs b = some u) : b = a ∧ K.lookup a = none ∧ u = .frz ob (.lst xs) := by
  unfold frz1 at h
  split at h
  · rename_i c
    exact ⟨c.1, c.2, (Option.some.inj h).symm⟩
  · cases h
theorem frz1_only : Only (frz1 K a ob xs) := fun b => by
  cases e : frz1 K a ob xs b with
  | none => exact .inl rfl
  | some u => exact .inr ⟨_, _, by rw [(frz1_at e).2.2]⟩
/-- the law's call: the promise is asked for where no container is being shown -/
theorem law_runs {P : Program} {w : World} {mg mb : Str → Option Value} {CX : CXT} {k : Nat} {fa : Addr} {fd : FuncData} {x : Str} {sp : Sp} {s : Shared} {vs : List Value} {ns : List Int} (kin : K.In s.heap) (hM : s.heap.Ns mainGlobals mg) (hB : s.heap.Ns builtinsNs mb)
    (bb : ∀ x : Str, x ≠ "__name__" → mb x = bootBuiltins x) (nol : s.heap.NoLimit) (ng : s.gens = #[]) (at_ : s.heap.get? a = some { cls := .type "list", data := .seq vs.toArray }) (isI : IntsAre vs ns) (len : ns.length ≤ sizeLine) (r : Room k callerA)
    (F : ∀ base : Heap, K.In base → base.Ns mainGlobals mg → FnOk P w K mg base CX k fa fd [x] sp) (bd : ∀ (s : Shared) (u : Value), BindsTo s fd ⟨[u], []⟩ [(x, u)])
    (says : ∀ H : Hp, Only H → SqL K H a (ns.map V.int) → sp [.ref a] H (fun v _ => v = .bl true) fun _ _ _ => False) (none_ : ∀ H e s', CX [] H s (fun _ _ _ => False) e s' → False) :
    codeAny (model P w) callerA (.call (.ref fa) ⟨[.ref a], []⟩) (fun q t => q = .ok (.ret (.bool true)) ∧ OldK s.heap t.heap ∧ t.os = s.os ∧ AllBare t.gens) s := by
  have rv := vals_ints isI
  obtain ⟨ob, eo⟩ : ∃ ob : Obj, ob = { cls := .type "list", data := .seq vs.toArray } := ⟨_, rfl⟩
  rw [← eo] at at_
  have nob : ∀ es ep, ob.data ≠ .dict es ep := fun es ep z => by rw [eo] at z; cases z
  obtain ⟨H, eH⟩ : ∃ H : Hp, H = frz1 K a ob (ns.map V.int) := ⟨_, rfl⟩
  have hat : ∀ {b u}, H b = some u → b = a ∧ K.lookup a = none ∧ u = .frz ob (.lst (ns.map V.int)) := fun {b u} h => frz1_at (by rw [← eH]; exact h)
  have sq : SqL K H a (ns.map V.int) := by
    cases e : K.lookup a with
    | none => exact .inl (.inr ⟨ob, by rw [eH]; exact if_pos ⟨rfl, e⟩⟩)
    | some o =>
      have e2 := kin a o e
      rw [at_] at e2
      cases e2
      subst eo
      exact .inr ⟨_, vs.toArray, _, e, rfl, rfl, rfl, by rw [List.size_toArray, isI.length]; exact len, rv⟩
  have hok : HOk P w H s.heap := fun b u h => by
    obtain ⟨rfl, _, rfl⟩ := hat h
    exact ⟨at_, by rw [List.length_map]; exact len, vs, _, rv, by rw [at_, eo]⟩
  have gone : ∀ {b o}, s.heap.get? b = some o → (b = a → K.lookup a = none → False) → (hidT s.heap H).get? b = some o := fun {b o} e n => hidT_get e (by
    cases q : H b with
    | none => rfl
    | some u => exact (n (hat q).1 (hat q).2.1).elim)
  have ns_ : ∀ {b m}, s.heap.Ns b m → (hidT s.heap H).Ns b m := fun {b m} ⟨o, es, ep, e, d, z⟩ => ⟨o, es, ep, gone e (fun h _ => by subst h; rw [at_] at e; cases e; exact nob _ _ d), d, z⟩
  have kb : K.In (hidT s.heap H) := fun b o e => gone (kin b o e) fun h z => by subst h; rw [z] at e; cases e
  have md : Mod K mg (hidT s.heap H) := ⟨kb, ns_ hM, ⟨mb, ns_ hB, bb⟩, nol.elim fun mc z => ⟨mc, ns_ z.1, z.2⟩⟩
  have e0 : Env0 P w K mg (hidT s.heap H) callerA [] s H := ⟨rfl, md, fun b o e => of_hidT e, Nat.le_of_eq (hidT_size _ _), trivial, fun b h => (List.not_mem_nil h).elim, hok, .of_eq ng⟩
  have go := (F _ kb (ns_ hM)).run callerA [] s H ⟨[.ref a], []⟩ [.ref a] [.ref a] _ _ r e0 (bd s _) (.cons rfl .nil) (says H (eH ▸ frz1_only) sq)
  refine codeAny_mono go fun q t h => ?_
  match q, h with
  | .error e, h => exact (none_ H e t h).elim
  | .ok (.ret u), ⟨v, H', os, bare, un, hok', rv', (qv : v = .bl true)⟩ =>
    subst qv
    have ru : u = Value.bool true := rv'
    subst ru
    refine ⟨rfl, OldK.of_keep fun b o e => ?_, os, bare⟩
    cases q : H b with
    | none => exact un.keep b o e q List.not_mem_nil List.not_mem_nil
    | some w' =>
      obtain ⟨rfl, _, rfl⟩ := hat q
      have z := (hok' _ _ (un.frzs _ _ _ q)).1
      rw [at_] at e
      cases e
      exact z
end
end Sh

set_option Elab.async false
set_option linter.all false
set_option maxRecDepth 100000
set_option maxHeartbeats 4000000
namespace Sx
open PySem PySem.W PySem.Calls PyProof.Rows PySem.HandSPX L2
/-! ### the facts of an error's class, decided upon the written part -/
def eqB {α : Type} [DecidableEq α] (a b : α) : Bool := decide (a = b)
theorem eqB_ok {α : Type} [DecidableEq α] {a b : α} (h : eqB a b = true) : a = b := of_decide_eq_true h
def clsB (K : Frag) (C : Addr) : Bool := match K.lookup C with
  | some ⟨.type t, _, .cls cd, sl⟩ => decide (t = "type") && (match cd.mro, sl.toList with
    | .ref C' :: bm, [_, _, _, _, some (.builtin n), _] => decide (C' = C) && (decide (n = "ValueError.__new__") && (!cd.hasDel && (cd.hasDict && refsVE bm)))
    | _, _ => false)
  | _ => false
theorem clsB_ok {K : Frag} {C : Addr} (h : clsB K C = true) : ∃ nm q N bs bm sn sub ab col dd k0 k1 k2 k3 k5, K.lookup C = some (excClassObj nm q C N bs bm true sn sub ab col dd k0 k1 k2 k3 k5 "ValueError.__new__") ∧ refsVE bm = true := by
  unfold clsB at h
  split at h
  · rename_i t dd cd sl ho
    rw [Bool.and_eq_true] at h
    obtain ⟨h1, h2⟩ := h
    have h1 := of_decide_eq_true h1
    subst h1
    split at h2
    · rename_i C' bm k0 k1 k2 k3 n k5 hm hs
      simp only [Bool.and_eq_true, decide_eq_true_eq, Bool.not_eq_true'] at h2
      obtain ⟨rfl, rfl, h3, h4, h5⟩ := h2
      obtain ⟨nm, bs, mro, ns, qn, hd, sn, sub, ab, col, del⟩ := cd
      dsimp only at hm h3 h4
      subst hm h3 h4
      have hsl : sl = #[k0, k1, k2, k3, some (.builtin "ValueError.__new__"), k5] := by
        obtain ⟨l⟩ := sl
        exact congrArg Array.mk hs
      subst hsl
      exact ⟨nm, qn, ns, bs, bm, sn, sub, ab, col, dd, k0, k1, k2, k3, k5, ho, h5⟩
    · cases h2
  · cases h
def isB (K : Frag) (D : Addr) : Bool := (clsIn K D).isSome && (eqB (findIn K (.ref D) "__getattribute__") (some (some (.builtin "BaseException.__getattribute__"))) && (eqB (findIn K (.ref D) "__getattr__") (some none) && (eqB (subIn K (.ref D) (.type "BaseException")) (some true) && (hasDictIn K D && (eqB (findIn K (.ref D) "__class__") (some (some (.builtin "object.__class__"))) &&
  (eqB (specialIn K (.builtin "object.__class__") "__get__") (some (some (.builtin "getset_descriptor.__get__"))) && (eqB (takesIn K (.builtin "object.__class__")) (some true) && eqB (mroIn K D (.type "object")) (some true))))))))
theorem isB_ok {K : Frag} {D : Addr} (h : isB K D = true) : IsC K D := by
  unfold isB at h
  simp only [Bool.and_eq_true] at h
  obtain ⟨h1, h2, h3, h4, h5, h6, h7, h8, h9⟩ := h
  exact ⟨h1, eqB_ok h2, eqB_ok h3, eqB_ok h4, h5, eqB_ok h6, eqB_ok h7, eqB_ok h8, eqB_ok h9⟩
/-- an error's class: its name, field, parameter, text, the places of its __init__ -/
structure XD where
  x : Str
  f : Str
  p : Str
  msg : Str
  qual : Str
  p1 : Pos
  p2 : Pos
  P : Ps
abbrev XW : Type := Option (Str × Str × Arguments × FuncBody × Scope × Addr × Addr)
def xW (K : Frag) (x : Str) : XW := match K.lookup (He.fAd K (x, some "__init__")) with
  | some ⟨_, _, .func fd, _⟩ => some (fd.name, fd.qualname, fd.params, fd.body, fd.scope, fd.globals, fd.builtins)
  | _ => none
def XD.val (d : XD) : XW := some ("__init__", d.qual, xA d.p d.p1 d.p2, .stmts (xB d.f d.p d.msg d.P), xS d.p, mainGlobals, builtinsNs)
def fnB (P : Program) (K : Frag) (C : Addr) (qual : Str) (fI : Addr) : Bool := match K.lookup fI with
  | some ⟨_, _, .func fd, _⟩ => (match fd.defaults, fd.kwdefaults, fd.code, fd.closure with
    | .none, .none, .ref cda, [(n, cc)] => decide (n = "__class__") && (codeIn K (.ref cda) qual && ((match K.lookup cc with
        | some ⟨_, _, .cell (some (.ref D)), _⟩ => decide (D = C)
        | _ => false) && (match K.lookup cda with
        | some ⟨_, _, .fields vs, _⟩ => (match (vs[2]? : Option Value) with
          | some (.str file _) => (P.main.file : Str) == file
          | _ => false)
        | _ => false)))
    | _, _, _, _ => false)
  | _ => false
def XD.ok (P : Program) (K : Frag) (d : XD) : Bool :=
  (He.Fa.glo d.x).ok K && (clsB K (He.ga K d.x) && (eqB (findIn K (.ref (He.ga K d.x)) "__setattr__") (some (some (.builtin "object.__setattr__"))) && (eqB (subIn K (.ref (He.ga K d.x)) (.type "BaseException")) (some true) && (eqB (typeIn K (.ref (He.ga K d.x))) (some (.type "type")) && (keepIn K (.ref (He.ga K d.x)) &&
  (eqB (findIn K (.ref (He.ga K d.x)) d.f) (some none) && (eqB (findIn K (.ref (He.ga K d.x)) "__init__") (some (some (.ref (He.fAd K (d.x, some "__init__"))))) && (eqB (typeIn K (.ref (He.fAd K (d.x, some "__init__")))) (some (.type "function")) &&
  (eqB (ks_superIn K (He.ga K d.x) (He.ga K d.x) "__init__") (some (some (.builtin "ValueError.__init__"))) && (eqB (subIn K (.ref (He.ga K d.x)) (.type "ValueError")) (some true) && (eqB (mroIn K (He.ga K d.x) (.ref (He.ga K d.x))) (some true) && (eqB (nsIn K cStatics "thirdparty.any") (some none) &&
  (!(P.main.scope.names.lookup ("super" : Str)).isSome && (fnB P K (He.ga K d.x) d.qual (He.fAd K (d.x, some "__init__")) && (d.P.c.endLine == d.P.e.line)))))))))))))))
theorem XD.tx {P : Program} {K : Frag} {d : XD} (e : xW K d.x = d.val) (h : d.ok P K = true) (pn : PName d.p) : Tx P K (He.ga K d.x) (He.fAd K (d.x, some "__init__")) d.f d.p d.msg d.qual := by
  unfold XD.ok at h
  simp only [Bool.and_eq_true] at h
  obtain ⟨h0, h1, h2, h3, h4, h5, h6, h7, h8, h9, h10, h11, h12, h13, h14, h15⟩ := h
  refine ⟨⟨clsB_ok h1, eqB_ok h2, eqB_ok h3, eqB_ok h4, h5⟩, eqB_ok h6, eqB_ok h7, eqB_ok h8, eqB_ok h9, eqB_ok h10, eqB_ok h11, eqB_ok h12, by simpa using h13, pn, ?_⟩
  unfold fnB at h14
  unfold xW at e
  cases q : K.lookup (He.fAd K (d.x, some "__init__")) with
  | none => rw [q] at h14; cases h14
  | some o =>
    obtain ⟨oc, od, dt, osl⟩ := o
    rw [q] at h14 e
    cases dt with
    | func fd =>
      obtain ⟨n1, n2, n3, n4, n5, n6, n7, n8, n9, n10, n11, n12, n13, n14, n15⟩ := fd
      have e2 : (some (n1, n2, n3, n4, n5, n6, n15) : XW) = some (("__init__" : Str), d.qual, xA d.p d.p1 d.p2, FuncBody.stmts (xB d.f d.p d.msg d.P), xS d.p, mainGlobals, builtinsNs) := e
      simp only [Option.some.injEq, Prod.mk.injEq] at e2
      obtain ⟨rfl, rfl, rfl, rfl, rfl, rfl, rfl⟩ := e2
      simp only at h14
      split at h14
      · rename_i cda n cc
        simp only [Bool.and_eq_true, decide_eq_true_eq] at h14
        obtain ⟨rfl, k1, k2, k3⟩ := h14
        refine ⟨oc, od, n10, n11, n12, cda, n14, osl, cc, d.p1, d.p2, d.P, by first | rfl | exact q, k1, ?_, ?_, h15⟩
        · split at k2
          · rename_i cl cld D csl ho
            have : D = He.ga K d.x := by simpa using k2
            subst this
            exact ⟨cl, cld, csl, ho⟩
          · cases k2
        · split at k3
          · rename_i ccl cdd vs ccs ho
            split at k3
            · rename_i file tf hv
              exact ⟨ccl, cdd, vs, ccs, file, tf, ho, hv, k3⟩
            · cases k3
          · cases k3
      · cases h14
    | _ => cases h14
end Sx

set_option Elab.async false
set_option linter.all false
set_option maxRecDepth 100000
set_option maxHeartbeats 4000000
namespace Sh
open PySem L2 PyProof.Rows

/-! ### constants of the module -/
def relCs (f : AV → Value → Bool) : List AV → List Value → Bool
  | [], [] => true
  | a :: as, u :: us => f a u && relCs f as us
  | _, _ => false
def relC (K : PySem.W.Frag) : Nat → AV → Value → Bool
  | 0, _, _ => false
  | n + 1, v, u => match v, u with
    | .non, .none => true
    | .bl b, .bool c => b == c
    | .int i, .int j _ => decide (i = j)
    | .str x, .str y _ => decide (x = y)
    | .ty a, .type b => decide (a = b)
    | .tup xs, .ref a => (match K.lookup a with
      | some ⟨.type c, _, .seq its _, _⟩ => decide (c = "tuple") && (decide (its.size ≤ sizeLine) && relCs (relC K n) xs its.toList)
      | _ => false)
    | _, _ => false
def CRel (K : PySem.W.Frag) (v : AV) (u : Value) : Prop := ∃ y, RelV y u ∧ ∀ R : Rc, R.K = K → ∀ ι H, VR R ι H v y
theorem relCs_ok {K : PySem.W.Frag} {f : AV → Value → Bool} (hf : ∀ v u, f v u = true → CRel K v u) : ∀ {as : List AV} {us : List Value}, relCs f as us = true → ∃ ys, Vals ys us ∧ ∀ R : Rc, R.K = K → ∀ ι H, VRs R ι H as ys
  | [], [], _ => ⟨[], .nil, fun R _ ι H => by unfold VRs; rfl⟩
  | [], _ :: _, h => by cases h
  | _ :: _, [], h => by cases h
  | a :: as, u :: us, h => by
    unfold relCs at h
    rw [Bool.and_eq_true] at h
    obtain ⟨y, h1, h2⟩ := hf a u h.1
    obtain ⟨ys, h3, h4⟩ := relCs_ok hf h.2
    exact ⟨y :: ys, .cons h1 h3, fun R e ι H => by unfold VRs; exact ⟨y, ys, rfl, h2 R e ι H, h4 R e ι H⟩⟩
theorem relC_ok {K : PySem.W.Frag} : ∀ (n : Nat) (v : AV) (u : Value), relC K n v u = true → CRel K v u
  | 0, v, u, h => by cases h
  | n + 1, v, u, h => by
    unfold relC at h
    split at h
    · exact ⟨.non, rfl, fun R _ ι H => mk_non⟩
    · rename_i b c
      have e : b = c := by simpa using h
      subst e
      exact ⟨.bl b, rfl, fun R _ ι H => mk_bl⟩
    · have e := of_decide_eq_true h
      subst e
      exact ⟨.int _, ⟨_, rfl⟩, fun R _ ι H => mk_int⟩
    · have e := of_decide_eq_true h
      subst e
      exact ⟨.str _, ⟨_, rfl⟩, fun R _ ι H => mk_str⟩
    · have e := of_decide_eq_true h
      subst e
      exact ⟨.ty _, rfl, fun R _ ι H => by unfold VR; rfl⟩
    · rename_i xs a
      split at h
      · rename_i c od its m sl q
        rw [Bool.and_eq_true, Bool.and_eq_true] at h
        obtain ⟨ys, h1, h2⟩ := relCs_ok (relC_ok n) h.2.2
        refine ⟨.ref a, rfl, fun R e ι H => mk_tup (vs := ys) ?_ (h2 R e ι H)⟩
        rw [e]
        exact .inr ⟨_, its, m, q, congrArg Value.type (of_decide_eq_true h.1), rfl, of_decide_eq_true h.2.1, h1⟩
      · cases h
    · cases h
/-- the value at an int key of a written dict with int keys -/
def intKeyB (e : DictEntry) : Bool := match e.key with
  | .int k _ => decide (e.hash = hashInt k)
  | _ => false
def intAt (K : PySem.W.Frag) (a : Addr) (i : Int) : Option Value := match K.lookup a with
  | some ⟨.type c, none, .dict es _, sl⟩ => if decide (c = "dict") && (decide (sl = #[]) && es.all intKeyB) then findBy Value.isInt es i else none
  | _ => none
theorem intAt_ok {K : PySem.W.Frag} {a : Addr} {i : Int} {u : Value} {y : V} (h : intAt K a i = some u) (r : RelV y u) : KDctI K a i y := by
  unfold intAt at h
  split at h
  · rename_i c es n sl ho
    split at h
    · rename_i hc
      simp only [Bool.and_eq_true, decide_eq_true_eq] at hc
      obtain ⟨rfl, rfl, h3⟩ := hc
      refine ⟨es, n, u, ho, fun e he => ?_, h, r⟩
      have h4 := (Array.all_eq_true'.mp h3) e he
      unfold intKeyB at h4
      split at h4
      · rename_i k t ek
        exact ⟨k, t, ek, of_decide_eq_true h4⟩
      · cases h4
    · cases h
  · cases h
/-- what is asked of a class whose instances are told of -/
def clxB (K : PySem.W.Frag) (x : Str) : Bool := (He.Fa.cls x).ok K && (PySem.W.noSeq K (He.ga K x) && ((match PySem.W.findIn K (.ref (He.ga K x)) "__getitem__" with
  | some (some (.ref f)) => PySem.W.fnIn K f
  | _ => true) && (Sx.eqB (PySem.W.findIn K (.ref (He.ga K x)) "__class__") (some (some (.builtin "object.__class__"))) && (Sx.eqB (PySem.W.specialIn K (.builtin "object.__class__") "__get__") (some (some (.builtin "getset_descriptor.__get__"))) &&
  (Sx.eqB (PySem.W.takesIn K (.builtin "object.__class__")) (some true) && (Sx.eqB (PySem.W.mroIn K (He.ga K x) (.type "object")) (some true) && Sx.eqB (PySem.W.kitOne K (.ref (He.ga K x)) (.ref (He.ga K x))) (some true)))))))
theorem clxB_ok {K : PySem.W.Frag} {x : Str} (h : clxB K x = true) : ClsX K (He.ga K x) := by
  obtain ⟨h1, h⟩ := He.ba h
  obtain ⟨h2, h⟩ := He.ba h
  obtain ⟨h3, h⟩ := He.ba h
  obtain ⟨h4, h⟩ := He.ba h
  obtain ⟨h5, h⟩ := He.ba h
  obtain ⟨h6, h⟩ := He.ba h
  obtain ⟨h7, h8⟩ := He.ba h
  exact ⟨h2, fun f e => by rw [e] at h3; exact h3, ⟨He.cls_ok h1, Sx.eqB_ok h4, Sx.eqB_ok h5, Sx.eqB_ok h6, Sx.eqB_ok h7, Sx.eqB_ok h8⟩⟩
/-- a constant: its name, its value; a dict that is read: its entries as far as they are wanted -/
def conB (K : PySem.W.Frag) (q : Str × AV) : Bool := match q.2 with
  | .gd n kvs => decide (n = q.1) && (He.eqO (PySem.W.nsIn K mainGlobals q.1) (some (some (.ref (He.ga K q.1)))) && kvs.all fun kv => match kv.1 with
    | .inr z => (match PySem.W.nsIn K (He.ga K q.1) z with | some (some u) => relC K 8 kv.2 u | _ => false)
    | .inl i => (match intAt K (He.ga K q.1) i with | some u => relC K 8 kv.2 u | none => false))
  | .cls c => decide (c = q.1) && ((He.Fa.glo q.1).ok K && clxB K q.1)
  | v => match PySem.W.nsIn K mainGlobals q.1 with | some (some u) => relC K 8 v u | _ => false
def isGd : AV → Bool
  | .gd _ _ => true
  | _ => false
/-- the text keys of a written dict -/
def keysS (kvs : List (Key × AV)) : List Str := kvs.filterMap fun kv => match kv.1 with | .inr z => some z | .inl _ => none
/-- the check of a written dict: all of its text keys are known, or its keys are ints -/
def gdB (ts : List (Str × List Str)) (q : Str × AV) : Bool := match q.2 with
  | .gd _ kvs => (ts.any fun t => decide (t.1 = q.1) && decide (t.2 = keysS kvs)) || (!kvs.isEmpty && kvs.all fun kv => match kv.1 with | .inl _ => true | .inr _ => false)
  | _ => true
theorem keysS_none {kvs : List (Key × AV)} {z : Str} (h : valA kvs (.inr z) = none) : z ∉ keysS kvs := fun hm => by
  unfold keysS at hm
  obtain ⟨kv, h1, h2⟩ := List.mem_filterMap.mp hm
  unfold valA at h
  have h3 : kvs.find? (fun kv => decide (kv.1 = Sum.inr z)) = none := by
    cases e : kvs.find? (fun kv => decide (kv.1 = Sum.inr z)) with
    | none => rfl
    | some kv => rw [e] at h; cases h
  have h4 := List.find?_eq_none.mp h3 kv h1
  obtain ⟨k, v⟩ := kv
  cases k with
  | inl i => cases h2
  | inr y => cases h2; simp at h4
theorem ns_none {K : PySem.W.Frag} {P : Params} {a : Addr} {ks : List Str} {z : Str} (h : He.dicW K a = some (He.keysIn P ks)) (hz : z ∉ ks) : PySem.W.nsIn K a z = some none := by
  unfold He.dicW at h
  split at h
  · rename_i c es n sl q
    split at h
    · have h1 : es.toList.map He.keyOf = He.keysIn P ks := Option.some.inj h
      have key : ∀ (l : List DictEntry) (ks : List Str), l.map He.keyOf = He.keysIn P ks → z ∉ ks → l.find? (·.key.isStr z) = none ∧ l.any (·.refKey) = false := by
        intro l
        induction l with
        | nil => intro ks _ _; exact ⟨rfl, rfl⟩
        | cons e r ih =>
          intro ks hks hz
          cases ks with
          | nil => cases hks
          | cons k ks =>
            have h1 : He.keyOf e :: r.map He.keyOf = some (k, PyData.keyHash P k) :: He.keysIn P ks := hks
            injection h1 with h2 h3
            obtain ⟨i1, i2⟩ := ih ks h3 fun hm => hz (List.mem_cons_of_mem _ hm)
            unfold He.keyOf at h2
            split at h2
            · rename_i x t q
              have hx : x = k := (Prod.mk.inj (Option.some.inj h2)).1
              have hne : (e.key.isStr z) = false := by
                rw [q]
                have : x ≠ z := fun e => hz (by rw [← e, hx]; exact List.mem_cons_self)
                simp [Value.isStr, this]
              have hr : e.refKey = false := by
                unfold DictEntry.refKey
                rw [q]
              exact ⟨by rw [List.find?_cons, hne]; exact i1, by rw [List.any_cons, hr, i2]; rfl⟩
            · cases h2
      obtain ⟨k1, k2⟩ := key es.toList ks h1 hz
      unfold PySem.W.nsIn
      rw [q]
      simp only [k1, k2]
      rfl
    · cases h
  · cases h
theorem dic_size {K : PySem.W.Frag} {P : Params} {w : World} {a : Addr} {ks : List Str} {es : Array DictEntry} {n : Nat} (h : He.dicW K a = some (He.keysIn P ks)) (D : KDict K w a es n) : es.size = ks.length := by
  unfold He.dicW at h
  rw [D.at_] at h
  simp only at h
  split at h
  · have h1 : es.toList.map He.keyOf = He.keysIn P ks := Option.some.inj h
    have h2 := congrArg List.length h1
    unfold He.keysIn at h2
    simpa using h2
  · cases h
theorem keysS_len : ∀ {kvs : List (Key × AV)}, kvs.all strK = true → (keysS kvs).length = kvs.length
  | [], _ => rfl
  | (k, v) :: r, h => by
    rw [List.all_cons, Bool.and_eq_true] at h
    cases k with
    | inl i => cases h.1
    | inr z =>
      have : keysS ((Sum.inr z, v) :: r) = z :: keysS r := rfl
      rw [this, List.length_cons, List.length_cons, keysS_len h.2]
/-! ### the hook -/
def gloB (K : PySem.W.Frag) (d : He.DefD) : Bool := match d.at_ with
  | (x, none) => (He.Fa.glo x).ok K
  | (x, some m) => (He.Fa.meth x m).ok K && (He.Fa.cls x).ok K
def chkB (cons : List (Str × AV)) (fn : List He.DefD) (K : PySem.W.Frag) : Bool := (cons.all fun q => conB K q) && ((bltNames.all fun x => He.eqO (PySem.W.nsIn K mainGlobals x) (some none)) && fn.all fun d => gloB K d)
/-- a classmethod of the head -/
structure CmD where
  cls : Str
  m : Str
  name : Str
  qual : Str
  params : Arguments
  body : List Stmt
  scope : Scope
  st : Bool := false
def CmD.T (d : CmD) : String := if d.st then "staticmethod" else "classmethod"
def CmD.toA (d : CmD) : He5.DefA := { at_ := fun K => He5.wf K (He.ga K d.cls) d.T d.m, name := d.name, qual := d.qual, params := d.params, body := d.body, scope := d.scope }
def CmD.fS (K : PySem.W.Frag) (d : CmD) : Bool := He5.wrapB K (He.ga K d.cls) "staticmethod" "staticmethod.__get__" d.m && (PySem.W.keepIn K (.ref (He5.wf K (He.ga K d.cls) "staticmethod" d.m)) && (Sx.eqB (PySem.W.typeIn K (.ref (He.ga K d.cls))) (some (.type "type")) && (PySem.W.readsIn K (He.ga K d.cls) (.type "type") && Sx.eqB (PySem.W.specialIn K (.ref (He.ga K d.cls)) "__getattribute__") (some (some (.builtin "type.__getattribute__"))))))
def CmD.fC (K : PySem.W.Frag) (d : CmD) : Bool := He5.wrapB K (He.ga K d.cls) "classmethod" "classmethod.__get__" d.m && (PySem.W.fnIn K (He5.wf K (He.ga K d.cls) "classmethod" d.m) && (PySem.W.readsIn K (He.ga K d.cls) (.type "type") && Sx.eqB (PySem.W.specialIn K (.ref (He.ga K d.cls)) "__getattribute__") (some (some (.builtin "type.__getattribute__")))))
def CmD.fB (K : PySem.W.Frag) (d : CmD) : Bool := if d.st then d.fS K else d.fC K
/-- the errors' classes: their texts, which clause catches which, what isinstance tells of which -/
structure XT where
  xds : List Sx.XD := []
  cat : List ((Str × Str) × Bool) := []
  isx : List ((Str × Str) × Bool) := []
  noat : List (Str × Str) := []
  mkc : List Str := []
  own : List Pos := []
  cmd : List CmD := []
  itn : List (Str × Str) := []
def XT.cs (E : XT) (ms : List ((Str × Str) × GF) := []) (cm : List ((Str × Str) × GF) := []) (it : List (Str × Str) := []) (sm : List ((Str × Str) × GF) := []) (itn : List (Str × Str) := []) : Cs := ⟨E.noat, ms, E.mkc, E.own, cm, it, sm, itn⟩
def XT.xt (E : XT) : Xt := { exs := E.xds.map fun d => (d.x, d.f), cat := E.cat, isx := E.isx, flds := E.xds.map fun d => d.f }
def catB (K : PySem.W.Frag) (flds : List Str) (e : (Str × Str) × Bool) : Bool := (He.Fa.glo e.1.2).ok K && (Sx.eqB (PySem.W.exmOne K (.ref (He.ga K e.1.1)) (.ref (He.ga K e.1.2))) (some e.2) && (Sx.isB K (He.ga K e.1.1) && flds.all fun f => Sx.eqB (PySem.W.findIn K (.ref (He.ga K e.1.1)) f) (some none)))
def isxB (K : PySem.W.Frag) (e : (Str × Str) × Bool) : Bool := match PySem.W.nsIn K mainGlobals e.1.2 with
  | some (some (.ref D)) => Sx.eqB (PySem.W.kitOne K (.ref (He.ga K e.1.1)) (.ref D)) (some e.2)
  | some none => (match bootBuiltins e.1.2 with
    | some (.type T) => Sx.eqB (PySem.W.kitOne K (.ref (He.ga K e.1.1)) (.type T)) (some e.2)
    | _ => false)
  | _ => false
def clB (K : PySem.W.Frag) (E : XT) : Bool := (E.noat.all fun q => (He.Fa.cls q.1).ok K && (He.Fa.noat q.1 q.2).ok K) && (E.mkc.all fun c => (He.Fa.mkr c).ok K && ((He.Fa.glo c).ok K && clxB K c)) && ((E.itn.all fun q => Sx.eqB (PySem.W.findIn K (.ref (He.ga K q.1)) "__len__") (some none) && Sx.eqB (PySem.W.findIn K (.ref (He.ga K q.1)) "__length_hint__") (some none)) && E.cmd.all fun d => d.fB K && d.toA.ok K)
def xtB0 (P : Program) (E : XT) (K : PySem.W.Frag) : Bool := (E.xds.all fun d => d.ok P K) && ((E.cat.all fun e => catB K (E.xds.map fun d => d.f) e) && E.isx.all fun e => isxB K e)
def sysB (K : PySem.W.Frag) : Bool := match K.lookup sysModules with
  | some o => o.cls == .type "dict"
  | none => false
def xtB (P : Program) (E : XT) (K : PySem.W.Frag) : Bool := xtB0 P E K && (clB K E && sysB K)
abbrev Al : Type := Bool × List He.FnW × List (Option (List (Option (Str × Int)))) × List Sx.XW
def obsS (P : Program) (E : XT) (cons : List (Str × AV)) (fn : List He.DefD) (ts : List (Str × List Str)) (K : PySem.W.Frag) : Al := ((xtB P E K && chkB cons fn K) && fn.all fun d => d.ok K, (fn.map fun d => He.fnW K d.at_) ++ E.cmd.map fun d => He5.fnA K (d.toA.at_ K), ts.map fun t => He.dicW K (He.ga K t.1), E.xds.map fun d => Sx.xW K d.x)
def valS (E : XT) (fn : List He.DefD) (ts : List (Str × List Str)) (w : World) : Al := (true, fn.map He.DefD.val ++ E.cmd.map fun d => d.toA.val, (ts.map fun t => some (He.keysIn w.params t.2)), E.xds.map fun d => d.val)
def obsSG (P : Program) (E : XT) (n : Nat) (cons : List (Str × AV)) (fn : List He.DefD) (ts : List (Str × List Str)) (g : Addr → Option Obj) : Al := obsS P E cons fn ts (He.frG g (sysModules :: cStatics :: He.asD g n))
def SaysS (P : Program) (E : XT) (cons : List (Str × AV)) (fn : List He.DefD) (ts : List (Str × List Str)) (w : World) (K : PySem.W.Frag) : Prop := obsS P E cons fn ts K = valS E fn ts w
def hookS (P : Program) (E : XT) (n : Nat) (cons : List (Str × AV)) (fn : List He.DefD) (ts : List (Str × List Str)) : PySem.W.Hook where
  α := Al
  obs := fun s => obsSG P E n cons fn ts s.heap.get?
  val := fun w => valS E fn ts w
  says := fun w h => ∃ K : PySem.W.Frag, K.In h ∧ SaysS P E cons fn ts w K
  of := fun _ _ e => ⟨_, He.frG_in, e⟩
  keeps := fun _ _ _ ⟨K, hK, c⟩ k => ⟨K, PySem.W.Frag.In.keeps hK k, c⟩
theorem obsSG_eq {P : Program} {E : XT} {n : Nat} {cons : List (Str × AV)} {fn : List He.DefD} {ts : List (Str × List Str)} {g : Addr → Option Obj} {s : Shared} (h : ∀ a, g a = s.heap.get? a) : obsSG P E n cons fn ts g = (hookS P E n cons fn ts).obs s := by
  have e : g = s.heap.get? := funext h
  rw [e] <;> rfl
section
variable {P : Program} {E : XT} {cons : List (Str × AV)} {fn : List He.DefD} {ts : List (Str × List Str)} {w : World} {K : PySem.W.Frag}
theorem SaysS.def_ (c : SaysS P E cons fn ts w K) (i : Nat) {d : He.DefD} (h : fn[i]? = some d := by rfl) : ∃ fd, FunD K d.name d.qual d.params d.body d.scope (d.dvs K) (d.kws K) (He.fAd K d.at_) fd := by
  have c2 := (He.ba (show ((xtB P E K && chkB cons fn K) && fn.all fun d => d.ok K) = true from congrArg (fun z : Al => z.1) c)).2
  have e0 : (fn.map fun d => He.fnW K d.at_) ++ (E.cmd.map fun d => He5.fnA K (d.toA.at_ K)) = fn.map He.DefD.val ++ E.cmd.map fun d => d.toA.val := congrArg (fun z : Al => z.2.1) c
  have e : fn.map (fun d => He.fnW K d.at_) = fn.map He.DefD.val := (List.append_inj e0 (by simp)).1
  have e2 : (fn.map fun d => He.fnW K d.at_)[i]? = (fn.map He.DefD.val)[i]? := by rw [e]
  rw [List.getElem?_map, List.getElem?_map, h] at e2
  exact He.DefD.funD (Option.some.inj e2) (List.all_eq_true.mp c2 d (List.mem_of_getElem? h))
theorem SaysS.chk (c : SaysS P E cons fn ts w K) : chkB cons fn K = true := (He.ba (He.ba (show ((xtB P E K && chkB cons fn K) && fn.all fun d => d.ok K) = true from congrArg (fun z : Al => z.1) c)).1).2
theorem SaysS.xt' (c : SaysS P E cons fn ts w K) : xtB P E K = true := (He.ba (He.ba (show ((xtB P E K && chkB cons fn K) && fn.all fun d => d.ok K) = true from congrArg (fun z : Al => z.1) c)).1).1
theorem SaysS.xt (c : SaysS P E cons fn ts w K) : xtB0 P E K = true := (He.ba c.xt').1
theorem SaysS.cl (c : SaysS P E cons fn ts w K) : clB K E = true := (He.ba (He.ba c.xt').2).1
theorem SaysS.sys (c : SaysS P E cons fn ts w K) : SysD K := by
  have h := (He.ba (He.ba c.xt').2).2
  unfold sysB at h
  split at h
  · rename_i o e
    exact ⟨o, e, beq_iff_eq.mp h⟩
  · cases h
/-- a classmethod of the head -/
theorem SaysS.cdef (c : SaysS P E cons fn ts w K) (i : Nat) {d : CmD} (h : E.cmd[i]? = some d := by rfl) (hst : d.st = false := by rfl) : ∃ fd, FunD K d.name d.qual d.params d.body d.scope [] [] (He5.wf K (He.ga K d.cls) "classmethod" d.m) fd ∧ ClX.CRead K (He.ga K d.cls) (.type "type") ∧
    ClX.CMet K (He.ga K d.cls) (.type "type") d.m (He.ma K (He.ga K d.cls) d.m) (He5.wf K (He.ga K d.cls) "classmethod" d.m) := by
  have e0 : (fn.map fun d => He.fnW K d.at_) ++ (E.cmd.map fun d => He5.fnA K (d.toA.at_ K)) = fn.map He.DefD.val ++ E.cmd.map fun d => d.toA.val := congrArg (fun z : Al => z.2.1) c
  have e : (E.cmd.map fun d => He5.fnA K (d.toA.at_ K)) = E.cmd.map fun d => d.toA.val := (List.append_inj e0 (by simp)).2
  have e2 : (E.cmd.map fun d => He5.fnA K (d.toA.at_ K))[i]? = (E.cmd.map fun d => d.toA.val)[i]? := by rw [e]
  rw [List.getElem?_map, List.getElem?_map, h] at e2
  have c2 := List.all_eq_true.mp (He.ba (He.ba c.cl).2).2 d (List.mem_of_getElem? h)
  obtain ⟨c3, c4⟩ := He.ba c2
  unfold CmD.fB at c3
  rw [hst, if_neg Bool.false_ne_true] at c3
  have eT : d.T = "classmethod" := by unfold CmD.T; rw [hst]; rfl
  obtain ⟨k1, k2⟩ := He.ba c3
  obtain ⟨k3, k4⟩ := He.ba k2
  obtain ⟨k5, k6⟩ := He.ba k4
  obtain ⟨fd, F⟩ := He5.DefA.funD (d := d.toA) (Option.some.inj e2) c4
  have F' : FunD K d.name d.qual d.params d.body d.scope [] [] (He5.wf K (He.ga K d.cls) d.T d.m) fd := F
  rw [eT] at F'
  exact ⟨fd, F', ⟨k5, Sx.eqB_ok k6⟩, He5.cmet_of k1 k3⟩
/-- a static method of the head -/
theorem SaysS.sdef (c : SaysS P E cons fn ts w K) (i : Nat) {d : CmD} (h : E.cmd[i]? = some d := by rfl) (hst : d.st = true := by rfl) : ∃ fd, FunD K d.name d.qual d.params d.body d.scope [] [] (He5.wf K (He.ga K d.cls) "staticmethod" d.m) fd ∧ ClX.CRead K (He.ga K d.cls) (.type "type") ∧
    SMet K (He.ga K d.cls) (.type "type") d.m (He.ma K (He.ga K d.cls) d.m) (He5.wf K (He.ga K d.cls) "staticmethod" d.m) := by
  have e0 : (fn.map fun d => He.fnW K d.at_) ++ (E.cmd.map fun d => He5.fnA K (d.toA.at_ K)) = fn.map He.DefD.val ++ E.cmd.map fun d => d.toA.val := congrArg (fun z : Al => z.2.1) c
  have e : (E.cmd.map fun d => He5.fnA K (d.toA.at_ K)) = E.cmd.map fun d => d.toA.val := (List.append_inj e0 (by simp)).2
  have e2 : (E.cmd.map fun d => He5.fnA K (d.toA.at_ K))[i]? = (E.cmd.map fun d => d.toA.val)[i]? := by rw [e]
  rw [List.getElem?_map, List.getElem?_map, h] at e2
  have c2 := List.all_eq_true.mp (He.ba (He.ba c.cl).2).2 d (List.mem_of_getElem? h)
  obtain ⟨c3, c4⟩ := He.ba c2
  unfold CmD.fB at c3
  rw [hst, if_pos rfl] at c3
  have eT : d.T = "staticmethod" := by unfold CmD.T; rw [hst]; rfl
  obtain ⟨k1, k2⟩ := He.ba c3
  obtain ⟨k3, k4⟩ := He.ba k2
  obtain ⟨k7, k8⟩ := He.ba k4
  obtain ⟨k5, k6⟩ := He.ba k8
  obtain ⟨fd, F⟩ := He5.DefA.funD (d := d.toA) (Option.some.inj e2) c4
  have F' : FunD K d.name d.qual d.params d.body d.scope [] [] (He5.wf K (He.ga K d.cls) d.T d.m) fd := F
  rw [eT] at F'
  exact ⟨fd, F', ⟨k5, Sx.eqB_ok k6⟩, ⟨Sx.eqB_ok k7, (He5.wrapB_ok k1).1, (He5.wrapB_ok k1).2, rfl, k3⟩⟩
theorem SaysS.itn (c : SaysS P E cons fn ts w K) {q : Str × Str} (h : q ∈ E.itn) : PySem.W.findIn K (.ref (He.ga K q.1)) "__len__" = some none ∧ PySem.W.findIn K (.ref (He.ga K q.1)) "__length_hint__" = some none := by
  have := He.ba (List.all_eq_true.mp (He.ba (He.ba c.cl).2).1 q h)
  exact ⟨Sx.eqB_ok this.1, Sx.eqB_ok this.2⟩
theorem SaysS.tabW (c : SaysS P E cons fn ts w K) {t : Str × List Str} (h : t ∈ ts) : He.dicW K (He.ga K t.1) = some (He.keysIn w.params t.2) := by
  have e : ts.map (fun t => He.dicW K (He.ga K t.1)) = ts.map fun t => some (He.keysIn w.params t.2) := congrArg (fun z : Al => z.2.2.1) c
  obtain ⟨i, hi⟩ := List.getElem?_of_mem h
  have e2 : (ts.map fun t => He.dicW K (He.ga K t.1))[i]? = (ts.map fun t => some (He.keysIn w.params t.2))[i]? := by rw [e]
  rw [List.getElem?_map, List.getElem?_map, hi] at e2
  exact Option.some.inj e2
theorem SaysS.tab (c : SaysS P E cons fn ts w K) {t : Str × List Str} (h : t ∈ ts) : ∃ es n, KDict K w (He.ga K t.1) es n := by
  have e : ts.map (fun t => He.dicW K (He.ga K t.1)) = ts.map fun t => some (He.keysIn w.params t.2) := congrArg (fun z : Al => z.2.2.1) c
  obtain ⟨i, hi⟩ := List.getElem?_of_mem h
  have e2 : (ts.map fun t => He.dicW K (He.ga K t.1))[i]? = (ts.map fun t => some (He.keysIn w.params t.2))[i]? := by rw [e]
  rw [List.getElem?_map, List.getElem?_map, hi] at e2
  exact He.dicW_ok (Option.some.inj e2)
end
/-- the relation of a head: dicts that are read stand where their names say -/
def rcOf (K : PySem.W.Frag) (w : World) (cons : List (Str × AV)) : Rc := { K := K, w := w, cl := fun x => some (He.ga K x), gdA := fun x => some (He.ga K x), gdT := fun x => match cons.lookup x with | some (.gd _ kvs) => some kvs | _ => none, xs := none, J := fun _ _ => True, Jst := fun _ _ _ _ _ _ _ _ => trivial }
theorem lookup_mem' {α : Type} {x : Str} {v : α} : ∀ {l : List (Str × α)}, l.lookup x = some v → (x, v) ∈ l
  | [], h => by cases h
  | (y, u) :: r, h => by
    rw [List.lookup_cons] at h
    split at h
    · rename_i e
      cases h
      rw [eq_of_beq e]
      exact List.mem_cons_self
    · exact List.mem_cons_of_mem _ (lookup_mem' h)
theorem lookup_mem'' {α β : Type} [BEq α] [LawfulBEq α] {x : α} {v : β} : ∀ {l : List (α × β)}, l.lookup x = some v → (x, v) ∈ l
  | [], h => by cases h
  | (y, u) :: r, h => by
    rw [List.lookup_cons] at h
    split at h
    · rename_i e
      cases h
      rw [eq_of_beq e]
      exact List.mem_cons_self
    · exact List.mem_cons_of_mem _ (lookup_mem'' h)
section
variable {P : Program} {E : XT} {cons : List (Str × AV)} {fn : List He.DefD} {ts : List (Str × List Str)} {w : World} {K : PySem.W.Frag} {h : Heap} {mg : Str → Option Value}
theorem con_ok {x : Str} {v : AV} (c : SaysS P E cons fn ts w K) (X : K.In h) (G : h.Ns mainGlobals mg) (e : cons.lookup x = some v) : ∃ u y, mg x = some u ∧ RelV y u ∧ ∀ ι H, VR (rcOf K w cons) ι H v y := by
  have c1 := (He.ba c.chk).1
  have c2 : conB K (x, v) = true := List.all_eq_true.mp c1 _ (lookup_mem' e)
  unfold conB at c2
  split at c2
  · rename_i n kvs ev
    have ev' : v = .gd n kvs := ev
    subst ev'
    obtain ⟨d1, d2⟩ := He.ba c2
    obtain ⟨d3, _⟩ := He.ba d2
    have e1 : n = x := of_decide_eq_true d1
    subst e1
    refine ⟨_, .ref (He.ga K n), PySem.W.mg_of X G (He.eqO_ok d3), rfl, fun ι H => ?_⟩
    unfold VR
    refine ⟨He.ga K n, rfl, ?_, rfl⟩
    show (match cons.lookup n with | some (.gd _ kvs) => some kvs | _ => none) = some kvs
    rw [e]
  · rename_i n ev
    have ev' : v = .cls n := ev
    subst ev'
    obtain ⟨d1, d2⟩ := He.ba c2
    obtain ⟨d3, d4⟩ := He.ba d2
    have e1 : n = x := of_decide_eq_true d1
    subst e1
    refine ⟨_, .ref (He.ga K n), He.glo_ok X G d3, rfl, fun ι H => ?_⟩
    unfold VR
    exact ⟨He.ga K n, rfl, clxB_ok d4, rfl⟩
  · split at c2
    · rename_i u e2
      obtain ⟨y, h1, h2⟩ := relC_ok _ _ _ c2
      exact ⟨u, y, PySem.W.mg_of X G e2, h1, h2 (rcOf K w cons) rfl⟩
    · cases c2
theorem gd_ok_s (c : SaysS P E cons fn ts w K) (ht : (cons.all fun q => gdB ts q) = true) {n : Str} {kvs : List (Key × AV)} {p : Addr} (h1 : (rcOf K w cons).gdT n = some kvs) (h2 : (rcOf K w cons).gdA n = some p) {z : Str} {v : AV} (hv : valA kvs (.inr z) = some v) : ∃ y, KDct K w p z y ∧ ∀ ι H, VR (rcOf K w cons) ι H v y := by
  have h1' : (match cons.lookup n with | some (.gd _ kvs) => some kvs | _ => none) = some kvs := h1
  split at h1'
  · rename_i m kvs' e
    cases h1'
    have hm := lookup_mem' e
    have c2 : conB K (n, .gd m kvs) = true := List.all_eq_true.mp (He.ba c.chk).1 _ hm
    unfold conB at c2
    simp only at c2
    obtain ⟨d1, d2⟩ := He.ba c2
    obtain ⟨d3, d4⟩ := He.ba d2
    have hp : p = He.ga K n := by
      have : some (He.ga K n) = some p := h2
      exact (Option.some.inj this).symm
    subst hp
    have t1 : ((ts.any fun t => decide (t.1 = n) && decide (t.2 = keysS kvs)) || (!kvs.isEmpty && kvs.all fun kv => match kv.1 with | .inl _ => true | .inr _ => false)) = true := List.all_eq_true.mp ht _ hm
    simp only [Bool.or_eq_true] at t1
    rcases t1 with t1 | t1
    case inr =>
      have t1 := (Bool.and_eq_true_iff.mp t1).2
      unfold valA at hv
      cases ef : kvs.find? (fun kv => decide (kv.1 = Sum.inr z)) with
      | none => rw [ef] at hv; cases hv
      | some kv =>
        have km := List.mem_of_find?_eq_some ef
        have kz : kv.1 = Sum.inr z := by simpa using List.find?_some ef
        have d5 := List.all_eq_true.mp t1 kv km
        rw [kz] at d5
        cases d5
    obtain ⟨t, tm, te⟩ := List.any_eq_true.mp t1
    have te' : t.1 = n := of_decide_eq_true (Bool.and_eq_true_iff.mp te).1
    obtain ⟨es, k, D⟩ := c.tab tm
    rw [te'] at D
    unfold valA at hv
    cases ef : kvs.find? (fun kv => decide (kv.1 = Sum.inr z)) with
    | none => rw [ef] at hv; cases hv
    | some kv =>
      rw [ef] at hv
      cases hv
      have km := List.mem_of_find?_eq_some ef
      have kz : kv.1 = Sum.inr z := by simpa using List.find?_some ef
      have d5 := List.all_eq_true.mp d4 kv km
      rw [kz] at d5
      simp only at d5
      split at d5
      · rename_i u e2
        obtain ⟨y, r1, r2⟩ := relC_ok _ _ _ d5
        exact ⟨y, ⟨es, k, u, D.at_, D.lit, e2, r1⟩, r2 (rcOf K w cons) rfl⟩
      · cases d5
  · cases h1'
theorem gd_ok_i (c : SaysS P E cons fn ts w K) {n : Str} {kvs : List (Key × AV)} {p : Addr} (h1 : (rcOf K w cons).gdT n = some kvs) (h2 : (rcOf K w cons).gdA n = some p) {z : Int} {v : AV} (hv : valA kvs (.inl z) = some v) : ∃ y, KDctI K p z y ∧ ∀ ι H, VR (rcOf K w cons) ι H v y := by
  have h1' : (match cons.lookup n with | some (.gd _ kvs) => some kvs | _ => none) = some kvs := h1
  split at h1'
  · rename_i m kvs' e
    cases h1'
    have hm := lookup_mem' e
    have c2 : conB K (n, .gd m kvs) = true := List.all_eq_true.mp (He.ba c.chk).1 _ hm
    unfold conB at c2
    simp only at c2
    obtain ⟨d1, d2⟩ := He.ba c2
    obtain ⟨d3, d4⟩ := He.ba d2
    have hp : p = He.ga K n := by
      have : some (He.ga K n) = some p := h2
      exact (Option.some.inj this).symm
    subst hp
    unfold valA at hv
    cases ef : kvs.find? (fun kv => decide (kv.1 = Sum.inl z)) with
    | none => rw [ef] at hv; cases hv
    | some kv =>
      rw [ef] at hv
      cases hv
      have km := List.mem_of_find?_eq_some ef
      have kz : kv.1 = Sum.inl z := by simpa using List.find?_some ef
      have d5 := List.all_eq_true.mp d4 kv km
      rw [kz] at d5
      simp only at d5
      split at d5
      · rename_i u e2
        obtain ⟨y, r1, r2⟩ := relC_ok _ _ _ d5
        exact ⟨y, intAt_ok e2 r1, r2 (rcOf K w cons) rfl⟩
      · cases d5
  · cases h1'
theorem gd_ok_f (c : SaysS P E cons fn ts w K) (ht : (cons.all fun q => gdB ts q) = true) {n : Str} {kvs : List (Key × AV)} {p : Addr} (h1 : (rcOf K w cons).gdT n = some kvs) (h2 : (rcOf K w cons).gdA n = some p) (ha : kvs.all strK = true) :
    ∃ es m, KDict (rcOf K w cons).K (rcOf K w cons).w p es m ∧ es.size = kvs.length ∧ ∀ z, valA kvs (.inr z) = none → PySem.W.nsIn (rcOf K w cons).K p z = some none := by
  have h1' : (match cons.lookup n with | some (.gd _ kvs) => some kvs | _ => none) = some kvs := h1
  split at h1'
  · rename_i m kvs' e
    cases h1'
    have hm := lookup_mem' e
    have hp : p = He.ga K n := by
      have : some (He.ga K n) = some p := h2
      exact (Option.some.inj this).symm
    subst hp
    have t1 : ((ts.any fun t => decide (t.1 = n) && decide (t.2 = keysS kvs)) || (!kvs.isEmpty && kvs.all fun kv => match kv.1 with | .inl _ => true | .inr _ => false)) = true := List.all_eq_true.mp ht _ hm
    rw [Bool.or_eq_true] at t1
    rcases t1 with t1 | t1
    · obtain ⟨t, tm, te⟩ := List.any_eq_true.mp t1
      obtain ⟨te1, te2⟩ := Bool.and_eq_true_iff.mp te
      have te1 : t.1 = n := of_decide_eq_true te1
      have te2 : t.2 = keysS kvs := of_decide_eq_true te2
      obtain ⟨es, k, D⟩ := c.tab tm
      have W := c.tabW tm
      rw [te1] at D W
      refine ⟨es, k, D, ?_, fun z hz => ns_none W ?_⟩
      · have h3 := dic_size W D
        rw [te2] at h3
        rw [h3]
        exact keysS_len ha
      · rw [te2]
        exact keysS_none hz
    · obtain ⟨t2, t3⟩ := Bool.and_eq_true_iff.mp t1
      cases kvs with
      | nil => cases t2
      | cons kv r =>
        have a1 := List.all_eq_true.mp ha kv List.mem_cons_self
        have a2 := List.all_eq_true.mp t3 kv List.mem_cons_self
        obtain ⟨k, v⟩ := kv
        cases k with
        | inl i => cases a1
        | inr z => cases a2
  · cases h1'
theorem gd_ok (c : SaysS P E cons fn ts w K) (ht : (cons.all fun q => gdB ts q) = true) : GdOk (rcOf K w cons) := fun n kvs p h1 h2 => ⟨fun z v hv => gd_ok_s c ht h1 h2 hv, fun z v hv => gd_ok_i c h1 h2 hv, fun ha => gd_ok_f c ht h1 h2 ha⟩
theorem blt_ok (c : SaysS P E cons fn ts w K) (X : K.In h) (G : h.Ns mainGlobals mg) : ∀ x ∈ bltNames, mg x = none := fun x hx =>
  PySem.W.mg_none_of X G (He.eqO_ok (List.all_eq_true.mp (He.ba (He.ba c.chk).2).1 x hx))
theorem SaysS.glo (c : SaysS P E cons fn ts w K) (X : K.In h) (G : h.Ns mainGlobals mg) (i : Nat) {d : He.DefD} {x : Str} (hd : fn[i]? = some d := by rfl) (hx : d.at_ = (x, none) := by rfl) : mg x = some (.ref (He.fAd K d.at_)) := by
  have c2 := List.all_eq_true.mp (He.ba (He.ba c.chk).2).2 d (List.mem_of_getElem? hd)
  unfold gloB at c2
  rw [hx] at c2
  rw [hx]
  exact He.glo_ok X G c2
theorem xt_ok (c : SaysS P E cons fn ts w K) (X : K.In h) (G : h.Ns mainGlobals mg) (pn : ∀ d ∈ E.xds, Sx.PName d.p) : XtOk (rcOf K w cons) P mg E.xt := by
  obtain ⟨c1, c2⟩ := He.ba c.xt
  obtain ⟨c3, c4⟩ := He.ba c2
  have e : (E.xds.map fun d => Sx.xW K d.x) = E.xds.map fun d => d.val := congrArg (fun z : Al => z.2.2.2) c
  refine ⟨fun x f hx => ?_, fun cc m b hx => ?_, fun cc m b hx => ?_⟩
  · obtain ⟨d, hd, e1⟩ := List.mem_map.mp (lookup_mem' hx)
    cases e1
    have hd1 : Sx.xW K d.x = d.val := by
      have : ∀ (l : List Sx.XD), (l.map fun d => Sx.xW K d.x) = (l.map fun d => d.val) → d ∈ l → Sx.xW K d.x = d.val := by
        intro l
        induction l with
        | nil => intro _ z; cases z
        | cons a r ih =>
          intro e z
          simp only [List.map_cons, List.cons.injEq] at e
          rcases List.mem_cons.mp z with rfl | z
          · exact e.1
          · exact ih e.2 z
      exact this _ e hd
    have ok := List.all_eq_true.mp c1 d hd
    refine ⟨He.ga K d.x, _, d.p, d.msg, d.qual, ?_, rfl, Sx.XD.tx hd1 ok (pn d hd)⟩
    unfold Sx.XD.ok at ok
    exact He.glo_ok X G (He.ba ok).1
  · have ok := List.all_eq_true.mp c3 _ (lookup_mem'' hx)
    unfold catB at ok
    simp only [Bool.and_eq_true] at ok
    obtain ⟨k1, k2, k3, k4⟩ := ok
    exact ⟨He.ga K cc, He.ga K m, rfl, He.glo_ok X G k1, Sx.eqB_ok k2, Sx.isB_ok k3, fun f hf => Sx.eqB_ok (List.all_eq_true.mp k4 f hf)⟩
  · have ok := List.all_eq_true.mp c4 _ (lookup_mem'' hx)
    unfold isxB at ok
    simp only at ok
    split at ok
    · rename_i D eD
      exact ⟨He.ga K cc, .ref D, .ref D, rfl, .inl (PySem.W.mg_of X G eD), rfl, fun u' r => r, Sx.eqB_ok ok⟩
    · rename_i eD
      split at ok
      · rename_i T eT
        exact ⟨He.ga K cc, .type T, .ty T, rfl, .inr ⟨PySem.W.mg_none_of X G eD, eT⟩, rfl, fun u' r => r, Sx.eqB_ok ok⟩
      · cases ok
    · cases ok
/-- the empty table -/
theorem tab0 {P' : Program} {base : Heap} (c : SaysS P E cons fn ts w K) (X : K.In h) (G : h.Ns mainGlobals mg) (ht : (cons.all fun q => gdB ts q) = true) (k : Nat) : TabOk (rcOf K w cons) P' mg base k [] cons E.cs :=
  ⟨gd_ok c ht, fun x g e => (nomatch e), fun x v e => con_ok c X G e, blt_ok c X G, fun f q hq C hC => by
    have hm : (q, f) ∈ E.noat := by
      have : E.noat.contains (q, f) = true := hq
      simpa using this
    obtain ⟨h1, h2⟩ := He.ba (List.all_eq_true.mp (He.ba (He.ba c.cl).1).1 _ hm)
    have e : He.ga K q = C := Option.some.inj hC
    subst e
    exact ⟨He.cls_ok h1, He.noat_ok h2⟩, fun m q g e => (nomatch e), fun q g _ e => (nomatch e), fun q m g e => (nomatch e), fun q F e => (nomatch e), fun q m g e => (nomatch e), fun q F e => (nomatch e), c.sys⟩
end
section
variable {P : Program} {E : XT} {cons : List (Str × AV)} {fn : List He.DefD} {ts : List (Str × List Str)} {w : World} {K : PySem.W.Frag} {h : Heap} {mg : Str → Option Value}
/-- a method of the head -/
theorem SaysS.mth (c : SaysS P E cons fn ts w K) (i : Nat) {d : He.DefD} {x m : Str} (hd : fn[i]? = some d := by rfl) (ha : d.at_ = (x, some m) := by rfl) : Meth K (He.ga K x) m (He.fAd K (x, some m)) ∧ Cls K (He.ga K x) := by
  have c1 := List.all_eq_true.mp (He.ba (He.ba c.chk).2).2 d (List.mem_of_getElem? hd)
  unfold gloB at c1
  rw [ha] at c1
  obtain ⟨h1, h2⟩ := He.ba c1
  exact ⟨He.meth_ok h1, He.cls_ok h2⟩
/-- a class that is made -/
theorem SaysS.mkr (c : SaysS P E cons fn ts w K) (X : K.In h) (G : h.Ns mainGlobals mg) {x : Str} (hx : E.mkc.contains x = true) : mg x = some (.ref (He.ga K x)) ∧ Mk K (He.ga K x) (He.fAd K (x, some ("__init__" : Str))) := by
  have hm : x ∈ E.mkc := by simpa using hx
  obtain ⟨h1, h2⟩ := He.ba (List.all_eq_true.mp (He.ba (He.ba c.cl).1).2 _ hm)
  exact ⟨He.glo_ok X G (He.ba h2).1, He.mkr_ok h1⟩
theorem SaysS.clx (c : SaysS P E cons fn ts w K) {x : Str} (hx : E.mkc.contains x = true) : ClsX K (He.ga K x) := by
  have hm : x ∈ E.mkc := by simpa using hx
  obtain ⟨h1, h2⟩ := He.ba (List.all_eq_true.mp (He.ba (He.ba c.cl).1).2 _ hm)
  exact clxB_ok (He.ba h2).2
end
theorem TabOk.up {R : Rc} {P : Program} {mg : Str → Option Value} {base : Heap} {j k : Nat} {funs : List (Str × GF)} {cons : List (Str × AV)} {S : Cs} (T : TabOk R P mg base j funs cons S) (h : j ≤ k) : TabOk R P mg base k funs cons S :=
  ⟨T.gd, fun x g e => by
    obtain ⟨f, h1, h2, h3⟩ := T.funs x g e
    exact ⟨f, h1, h2, h3.mono h⟩, T.cons, T.blt, T.fld, fun m c g e => by
    obtain ⟨Ca, f, i, h1, h2⟩ := T.meth m c g e
    exact ⟨Ca, f, i, Nat.le_trans h1 h, h2⟩, fun c g e1 e2 => by
    obtain ⟨Ca, f, i, h1, h2⟩ := T.made c g e1 e2
    exact ⟨Ca, f, i, Nat.le_trans h1 h, h2⟩, fun c m g e => by
    obtain ⟨Ca, mc, p, f, h1, h2, h3, h4⟩ := T.cm c m g e
    exact ⟨Ca, mc, p, f, h1, h2, h3, h4.mono h⟩, fun c F e => by
    obtain ⟨Ca, fi, i, h1, h2⟩ := T.it c F e
    exact ⟨Ca, fi, i, Nat.le_trans h1 h, h2⟩, fun c m g e => by
    obtain ⟨Ca, mc, p, f, h1, h2, h3, h4⟩ := T.sm c m g e
    exact ⟨Ca, mc, p, f, h1, h2, h3, h4.mono h⟩, fun c F e => by
    obtain ⟨Ca, fi, i, h1, h2⟩ := T.itn c F e
    exact ⟨Ca, fi, i, Nat.le_trans h1 h, h2⟩, T.sys⟩
/-- one method more -/
theorem TabOk.addM' {R : Rc} {P : Program} {mg : Str → Option Value} {base : Heap} {j k : Nat} {funs : List (Str × GF)} {cons : List (Str × AV)} {S : Cs} (T : TabOk R P mg base k funs cons S) {c m : Str} {g0 : GF} {Ca f : Addr} (hC : R.cl c = some Ca) (hc : Cls R.K Ca) (hm : Meth R.K Ca m f)
    (hj : j + 4 ≤ k) (hX : ClsX R.K Ca) (F : FnR P R.w R.K mg base (L2.CX P R.w) j f (SpG R g0)) (hk : S.mkc.contains c = true → m = "__init__" → j + 1 ≤ k ∧ mg c = some (.ref Ca) ∧ Mk R.K Ca f) : TabOk R P mg base k funs cons ⟨S.noat, ((c, m), g0) :: S.meths, S.mkc, S.own, S.cms, S.itf, S.sms, S.itn⟩ :=
  ⟨T.gd, T.funs, T.cons, T.blt, T.fld, fun m' c' g e => by
    simp only [List.lookup_cons] at e
    split at e
    · rename_i hb
      cases e
      have e2 := eq_of_beq hb
      cases e2
      exact ⟨Ca, f, j, hj, hC, hc, hm, F, hX⟩
    · exact T.meth m' c' g e, fun c' g e1 e => by
    simp only [List.lookup_cons] at e
    split at e
    · rename_i hb
      cases e
      have e2 := eq_of_beq hb
      cases e2
      obtain ⟨h1, h2, h3⟩ := hk e1 rfl
      exact ⟨Ca, f, j, h1, hC, h2, h3, F⟩
    · exact T.made c' g e1 e, T.cm, T.it, T.sm, T.itn, T.sys⟩
theorem TabOk.addM {R : Rc} {P : Program} {mg : Str → Option Value} {base : Heap} {j k : Nat} {funs : List (Str × GF)} {cons : List (Str × AV)} {S : Cs} (T : TabOk R P mg base k funs cons S) {c m : Str} {fn : Fn} {Ca f : Addr} {fd : FuncData} {ps : List Str} (hC : R.cl c = some Ca) (hc : Cls R.K Ca) (hm : Meth R.K Ca m f)
    (hj : j + 4 ≤ k) (hX : ClsX R.K Ca) (F : FnOk P R.w R.K mg base (L2.CX P R.w) j f fd ps (SpOf R fn ps.length)) (b : Binds R.K fd ps []) (hk : S.mkc.contains c = true → m = "__init__" → j + 1 ≤ k ∧ mg c = some (.ref Ca) ∧ Mk R.K Ca f) : TabOk R P mg base k funs cons ⟨S.noat, ((c, m), ⟨fn, ps.length, [], false⟩) :: S.meths, S.mkc, S.own, S.cms, S.itf, S.sms, S.itn⟩ :=
  T.addM' hC hc hm hj hX (fnR_plain (g := ⟨fn, ps.length, [], false⟩) (ds := []) (dvs := []) rfl F (fun i => by rw [List.drop_nil]; exact b) .nil fun ι H => by unfold VRs; rfl) hk
/-- one def more -/
theorem TabOk.add' {R : Rc} {P : Program} {mg : Str → Option Value} {base : Heap} {k : Nat} {funs : List (Str × GF)} {cons : List (Str × AV)} {S : Cs} (T : TabOk R P mg base k funs cons S) {x : Str} {g0 : GF} {f : Addr}
    (m : mg x = some (.ref f)) (kp : PySem.W.keepIn R.K (.ref f) = true) (F : FnR P R.w R.K mg base (L2.CX P R.w) k f (SpG R g0)) : TabOk R P mg base k ((x, g0) :: funs) cons S :=
  ⟨T.gd, fun y g e => by
    rw [List.lookup_cons] at e
    split at e
    · rename_i hb
      cases e
      rw [eq_of_beq hb]
      exact ⟨f, m, kp, F⟩
    · exact T.funs y g e, T.cons, T.blt, T.fld, T.meth, T.made, T.cm, T.it, T.sm, T.itn, T.sys⟩
theorem TabOk.add {R : Rc} {P : Program} {mg : Str → Option Value} {base : Heap} {k : Nat} {funs : List (Str × GF)} {cons : List (Str × AV)} {S : Cs} (T : TabOk R P mg base k funs cons S) {x : Str} {fn : Fn} {f : Addr} {fd : FuncData} {ps : List Str}
    (m : mg x = some (.ref f)) (kp : PySem.W.keepIn R.K (.ref f) = true) (F : FnOk P R.w R.K mg base (L2.CX P R.w) k f fd ps (SpOf R fn ps.length)) (b : Binds R.K fd ps []) : TabOk R P mg base k ((x, ⟨fn, ps.length, [], false⟩) :: funs) cons S :=
  T.add' m kp (fnR_plain (g := ⟨fn, ps.length, [], false⟩) (ds := []) (dvs := []) rfl F (fun i => by rw [List.drop_nil]; exact b) .nil fun ι H => by unfold VRs; rfl)
/-- one classmethod more -/
theorem TabOk.addC {R : Rc} {P : Program} {mg : Str → Option Value} {base : Heap} {k : Nat} {funs : List (Str × GF)} {cons : List (Str × AV)} {S : Cs} (T : TabOk R P mg base k funs cons S) {c m : Str} {fn : Fn} {Ca p f : Addr} {mc : Value} {fd : FuncData} {ps : List Str} (hC : R.cl c = some Ca) (r : ClX.CRead R.K Ca mc) (hm : ClX.CMet R.K Ca mc m p f)
    (F : FnOk P R.w R.K mg base (L2.CX P R.w) k f fd ps (SpOf R fn ps.length)) (b : Binds R.K fd ps []) : TabOk R P mg base k funs cons ⟨S.noat, S.meths, S.mkc, S.own, ((c, m), ⟨fn, ps.length, [], false⟩) :: S.cms, S.itf, S.sms, S.itn⟩ :=
  ⟨T.gd, T.funs, T.cons, T.blt, T.fld, T.meth, T.made, fun c' m' g e => by
    simp only [List.lookup_cons] at e
    split at e
    · rename_i hb
      cases e
      have e2 := eq_of_beq hb
      cases e2
      exact ⟨Ca, mc, p, f, hC, r, hm, fnR_plain (g := ⟨fn, ps.length, [], false⟩) (ds := []) (dvs := []) rfl F (fun i => by rw [List.drop_nil]; exact b) .nil fun ι H => by unfold VRs; rfl⟩
    · exact T.cm c' m' g e, T.it, T.sm, T.itn, T.sys⟩
/-- one static method more -/
theorem TabOk.addS {R : Rc} {P : Program} {mg : Str → Option Value} {base : Heap} {k : Nat} {funs : List (Str × GF)} {cons : List (Str × AV)} {S : Cs} (T : TabOk R P mg base k funs cons S) {c m : Str} {g0 : GF} {Ca p f : Addr} {mc : Value} (hC : R.cl c = some Ca) (r : ClX.CRead R.K Ca mc) (hm : SMet R.K Ca mc m p f)
    (F : FnR P R.w R.K mg base (L2.CX P R.w) k f (SpG R g0)) : TabOk R P mg base k funs cons ⟨S.noat, S.meths, S.mkc, S.own, S.cms, S.itf, ((c, m), g0) :: S.sms, S.itn⟩ :=
  ⟨T.gd, T.funs, T.cons, T.blt, T.fld, T.meth, T.made, T.cm, T.it, fun c' m' g e => by
    simp only [List.lookup_cons] at e
    split at e
    · rename_i hb
      cases e
      have e2 := eq_of_beq hb
      cases e2
      exact ⟨Ca, mc, p, f, hC, r, hm, F⟩
    · exact T.sm c' m' g e, T.itn, T.sys⟩
/-- one __iter__ without a length more -/
theorem TabOk.addN {R : Rc} {P : Program} {mg : Str → Option Value} {base : Heap} {j k : Nat} {funs : List (Str × GF)} {cons : List (Str × AV)} {S : Cs} (T : TabOk R P mg base k funs cons S) {c Fl : Str} {Ca f : Addr} (hC : R.cl c = some Ca) (hm : Meth R.K Ca "__iter__" f) (hc : Cls R.K Ca) (hn : S.noat.contains (c, Fl) = true)
    (hl : PySem.W.findIn R.K (.ref Ca) "__len__" = some none ∧ PySem.W.findIn R.K (.ref Ca) "__length_hint__" = some none) (hj : j + 4 ≤ k) (F : ∀ b, FnR P R.w R.K mg base (L2.CX P R.w) j f (spItK b R.K Fl)) : TabOk R P mg base k funs cons ⟨S.noat, S.meths, S.mkc, S.own, S.cms, S.itf, S.sms, (c, Fl) :: S.itn⟩ :=
  ⟨T.gd, T.funs, T.cons, T.blt, T.fld, T.meth, T.made, T.cm, T.it, T.sm, fun c' F' e => by
    rw [List.lookup_cons] at e
    split at e
    · rename_i hb
      cases e
      have e2 := eq_of_beq hb
      subst e2
      exact ⟨Ca, f, j, hj, hC, hm, hc, (T.fld Fl _ hn Ca hC).2, hl.1, hl.2, F⟩
    · exact T.itn c' F' e, T.sys⟩
/-- one __iter__ more -/
theorem TabOk.addI {R : Rc} {P : Program} {mg : Str → Option Value} {base : Heap} {j k : Nat} {funs : List (Str × GF)} {cons : List (Str × AV)} {S : Cs} (T : TabOk R P mg base k funs cons S) {c Fl : Str} {Ca f : Addr} (hC : R.cl c = some Ca) (hm : Meth R.K Ca "__iter__" f) (hc : Cls R.K Ca) (hn : S.noat.contains (c, Fl) = true)
    (hj : j + 4 ≤ k) (F : FnR P R.w R.K mg base (L2.CX P R.w) j f (spIt R.K Fl)) : TabOk R P mg base k funs cons ⟨S.noat, S.meths, S.mkc, S.own, S.cms, (c, Fl) :: S.itf, S.sms, S.itn⟩ :=
  ⟨T.gd, T.funs, T.cons, T.blt, T.fld, T.meth, T.made, T.cm, fun c' F' e => by
    rw [List.lookup_cons] at e
    split at e
    · rename_i hb
      cases e
      have e2 := eq_of_beq hb
      subst e2
      exact ⟨Ca, f, j, hj, hC, hm, hc, (T.fld Fl _ hn Ca hC).2, F⟩
    · exact T.it c' F' e, T.sm, T.itn, T.sys⟩
/-- a def, by its body, where no container is being shown -/
theorem fn_okG {CX : CXT} {P : Program} {w : World} {K : PySem.W.Frag} {mg : Str → Option Value} {base : Heap} {x qual : Str} {params : Arguments} {sts : List Stmt} {scope : Scope} {dvs : List V} {kws : List (Str × V)} {f : Addr} {fd : FuncData} {N ps : List Str} {k : Nat} {sp : Sp}
    (F : FunD K x qual params sts scope dvs kws f fd) (S : FnScope N ps scope) (len : ∀ vs H Q E, sp vs H Q E → vs.length = ps.length)
    (hbody : ∀ (cdv : Value) (A : Around) (outer : List Env) (s : Shared) (H : Hp) (vs : List V) (Q : VK) (E : XK), Room k (A.deeper (envOfC qual scope s.heap.objs.size f cdv)) → sp vs H Q E →
      ∃ t, PSs (cxOf CX P w K mg base N qual scope f cdv A outer s H E) sts t ∧ t { nx := fun _ H' => Q .non H', rt := Q } (start N vs) H) : FnOk P w K mg base CX (k + 1) f fd ps sp := by
  obtain ⟨_, _, _, _, _, _, _, cdv, _, _, ef, lk, hcd, _, _⟩ := F.ex
  subst ef
  refine ⟨len, fun A outer s H as us vs Q E r e0 bd rv z => ?_⟩
  have kin := e0.mod.kin.keeps (fun b o e => (e0.bs b o e).1 : ∀ b o, base.get? b = some o → s.heap.get? b = some o)
  have nol := e0.mod.nolimit.keeps (fun b o e => (e0.bs b o e).1 : ∀ b o, base.get? b = some o → s.heap.get? b = some o)
  have kinds : ∀ y ∈ ps.zip us, scope.names.lookup y.1 = some .local ∨ (scope.names.lookup y.1 = some .cell ∧ ((cellsFrom (s.heap.objs.size + 1) scope.names []).lookup y.1).isSome = true) := fun y hy =>
    (S.par y.1 (List.of_mem_zip (a := y.1) (b := y.2) hy).1).imp id fun c => ⟨c, PySem.W.cellsFrom_some _ _ _ (.inl c)⟩
  refine codeAny_call_function r.depth (kin _ _ lk) rfl S.co S.gen rfl (PySem.W.codeRec_of kin hcd) (bd _ _ _ _ (wpAny_newFunctionEnv_cells S.kind kinds fun env he s1 ic => ?_))
  subst he
  obtain ⟨t, pt, ht⟩ := hbody cdv A outer s H vs Q E (r.deeper _) z
  have I := inv_start (CX := CX) (E := E) S r.hd e0 (len _ _ _ _ z) rv ic
  refine ⟨nol.keeps ic.toInCall.keep, codeAny_func (wpAny_mono (pt.run [] s1 _ H _ I ht) (fun fl s' hs => ?_) fun e s' hs => hs)⟩
  cases fl with
  | ret u => exact let ⟨v, _, H', J, rv', q⟩ := hs; ⟨v, H', J.os, J.bare, J.base, J.hok, rv', q⟩
  | next => exact let ⟨_, H', J, q⟩ := hs; ⟨V.non, H', J.os, J.bare, J.base, J.hok, rfl, q⟩
  | brk => exact let ⟨_, _, _, q⟩ := hs; q.elim
  | cont => exact let ⟨_, _, _, q⟩ := hs; q.elim
/-- def __iter__(self): return iter(self.F) -/
theorem iter_ok {R : Rc} {P : Program} {mg : Str → Option Value} {base : Heap} {k : Nat} {x qual sf Fl : Str} {params : Arguments} {p1 p2 p3 p4 p5 : Pos} {scope : Scope} {kws : List (Str × V)} {f : Addr} {fd : FuncData} (hb : mg "iter" = none)
    (F : FunD R.K x qual params [.Return (some (.Call (.Name "iter" p1) [.Attribute (.Name sf p2) Fl p3] [] p4)) p5] scope [] kws f fd) (S : FnScope [sf] [sf] scope) (h1 : scope.names.lookup ("iter" : Str) = some .globalImplicit) (h2 : visB scope sf = true) (h3 : okName sf = true)
    (b : Binds R.K fd [sf] []) : FnR P R.w R.K mg base (L2.CX P R.w) (k + 1) f (spIt R.K Fl) := by
  have ok : FnOk P R.w R.K mg base (L2.CX P R.w) (k + 1) f fd [sf] (spIt R.K Fl) := fn_okG F S (fun vs H Q E h => by obtain ⟨_, _, _, _, _, _, rfl, _⟩ := h; rfl) fun cdv A outer s H vs Q E hr h => by
    obtain ⟨n1, n2, n3⟩ := okName_ok h3
    refine ⟨_, pss_one (ps_ret (pe_callB call_iterY (by exact h1) hb (by decide +kernel) (pa_cons (pe_fld (pe_var (i := 0) rfl (visB_ok h2) n1 n2) rfl) pa_nil rfl) (by decide) (by decide) rfl rfl)), ?_⟩
    obtain ⟨a, C, dx, fs, l, zs, rfl, ha, hc, hn, hl, hs, hq⟩ := h
    exact ⟨.ref a, rfl, a, C, dx, fs, .ref l, rfl, ha, hc, hn, hl, l, zs, rfl, hs, hq⟩
  refine FnR.imp (ok.raw (ds := []) (dvs := []) b .nil) fun vs H Q E h => ?_
  rw [List.append_nil]
  exact h
theorem iter_okK {R : Rc} {P : Program} {mg : Str → Option Value} {base : Heap} {k : Nat} {x qual sf Fl : Str} {params : Arguments} {p1 p2 p3 p4 p5 : Pos} {scope : Scope} {kws : List (Str × V)} {f : Addr} {fd : FuncData} (hb : mg "iter" = none)
    (F : FunD R.K x qual params [.Return (some (.Call (.Name "iter" p1) [.Attribute (.Name sf p2) Fl p3] [] p4)) p5] scope [] kws f fd) (S : FnScope [sf] [sf] scope) (h1 : scope.names.lookup ("iter" : Str) = some .globalImplicit) (h2 : visB scope sf = true) (h3 : okName sf = true)
    (bd : Binds R.K fd [sf] []) (b : Bool) : FnR P R.w R.K mg base (L2.CX P R.w) (k + 1) f (spItK b R.K Fl) := by
  have ok : FnOk P R.w R.K mg base (L2.CX P R.w) (k + 1) f fd [sf] (spItK b R.K Fl) := fn_okG F S (fun vs H Q E h => by obtain ⟨_, _, _, _, _, _, rfl, _⟩ := h; rfl) fun cdv A outer s H vs Q E hr h => by
    obtain ⟨n1, n2, n3⟩ := okName_ok h3
    refine ⟨_, pss_one (ps_ret (pe_callB (call_iterK (b := b)) (by exact h1) hb (by decide +kernel) (pa_cons (pe_fld (pe_var (i := 0) rfl (visB_ok h2) n1 n2) rfl) pa_nil rfl) (by decide) (by decide) rfl rfl)), ?_⟩
    obtain ⟨a, C, dx, fs, l, zs, rfl, ha, hc, hn, hl, hs, hq⟩ := h
    exact ⟨.ref a, rfl, a, C, dx, fs, .ref l, rfl, ha, hc, hn, hl, l, zs, rfl, hs, hq⟩
  refine FnR.imp (ok.raw (ds := []) (dvs := []) bd .nil) fun vs H Q E h => ?_
  rw [List.append_nil]
  exact h
/-- a def's body, by its text -/
theorem body_ok {R : Rc} {P : Program} {mg : Str → Option Value} {base : Heap} {k : Nat} {funs : List (Str × GF)} {cons : List (Str × AV)} {S0 : Cs} (T : TabOk R P mg base k funs cons S0) {Ex : Xt} (TX : XtOk R P mg Ex) (hxs : R.xs = none)
    {qual : Str} {sts : List Stmt} {scope : Scope} {f : Addr} {N ps : List Str} {n : Nat} {body : SF} (S : FnScope N ps scope)
    (hc : compSs n (cpOf N scope k funs cons Ex S0) sts = some body) (cdv : Value) (A : Around) (outer : List Env) (s : Shared) (H : Hp) (vs : List V) (Q : VK) (E : XK) (hr : Room k (A.deeper (envOfC qual scope s.heap.objs.size f cdv))) (h : SpOf R (runFn body N.length) ps.length vs H Q E) :
    ∃ t, PSs (cxOf (L2.CX P R.w) P R.w R.K mg base N qual scope f cdv A outer s H E) sts t ∧ t { nx := fun _ H' => Q .non H', rt := Q } (start N vs) H := by
  obtain ⟨ι, A0, as, M, r, hl, q⟩ := h
  have o : CxOk R (cpOf N scope k funs cons Ex S0) (cxOf (L2.CX P R.w) P R.w R.K mg base N qual scope f cdv A outer s H E) (fun cls d _ H => E cls d H) :=
    ⟨rfl, rfl, rfl, rfl, S.kind, S.nd, fun _ => rfl, fun _ => hr, hr.units, fun _ => hxs, fun _ => rfl, takes_of rfl rfl rfl rfl, passes_of rfl, fun _ _ => rfl, T.gd, fun y g h => by
      obtain ⟨f', h1, h2, h3⟩ := T.funs y g h
      exact ⟨f', h1, h2, h3⟩, T.cons, T.blt, TX.exs, TX.cat, TX.isx, fun y c fs e => (by cases e), fun _ _ => ⟨rfl, rfl⟩, fun i x e => (by rw [hxs] at e; cases e), T.fld, fun _ m c g e => (by
      obtain ⟨Ca, f', j, h0, h1, h2, h3, h4, h5⟩ := T.meth m c g e
      exact ⟨Ca, f', j, h1, ⟨h2, h3, h4, hr.mono h0, h5⟩⟩), fun _ c g e1 e2 => (by
      obtain ⟨Ca, f', j, h0, h1, h2, h3, h4⟩ := T.made c g e1 e2
      exact ⟨Ca, f', j, h1, h2, ⟨h3, h4, hr.mono h0⟩⟩), fun _ m c g e => (by
      obtain ⟨Ca, mc, p, f', h1, h2, h3, h4⟩ := T.cm c m g e
      exact ⟨Ca, k, h1, ⟨⟨mc, p, f', h2, h3, h4⟩, hr⟩⟩), fun _ c Fl g e1 e2 => (by
      obtain ⟨Ca, fi, ki, h0, h1, h2, h3, h4, h5⟩ := T.it c Fl e1
      obtain ⟨Cb, fl, kl, g0, g1, g2, g3, g4, g5⟩ := T.meth "__len__" c g e2
      have : Cb = Ca := by rw [h1] at g1; exact (Option.some.inj g1).symm
      subst this
      exact ⟨Cb, fi, ki, fl, kl, h1, ⟨h2, h3, h4, h5, hr.mono h0⟩, g3, g4, hr.mono g0⟩), fun _ m c g e => (by
      obtain ⟨Ca, mc, p, f', h1, h2, h3, h4⟩ := T.sm c m g e
      exact ⟨Ca, k, h1, ⟨⟨mc, p, f', h2, h3, h4⟩, hr⟩⟩), fun _ c Fl e => (by
      obtain ⟨Ca, fi, ki, h0, h1, h2, h3, h4, h5, h6, h7⟩ := T.itn c Fl e
      exact ⟨Ca, fi, ki, h1, ⟨h2, h3, h4, h5, h6, h7, hr.mono h0⟩⟩), T.sys⟩
  obtain ⟨t, h1, h2⟩ := (compS_ok n (R := R)).2 _ _ body hc _ _ o
  refine ⟨t, h1, h2 _ _ (as.map some ++ List.replicate (N.length - as.length) none) H ι A0 (LR.start r hxs) M ?_⟩
  unfold runFn at q
  cases e : body (as.map some ++ List.replicate (N.length - as.length) none) A0 with
  | nx ℓ' A' => rw [e] at q; exact fun ι' H' σ' U' M' _ => q ι' H' .non U' M' mk_non
  | rt v A' => rw [e] at q; exact fun ι' H' x' U' M' r' => q ι' H' x' U' M' r'
  | bk ℓ' A' => rw [e] at q; exact False.elim q
  | ct ℓ' A' => rw [e] at q; exact False.elim q
  | exc c fs ℓ' A' => rw [e] at q; exact fun ι' H' σ' cls d U' M' _ x' => q ι' H' cls d U' M' x'
  | bad => rw [e] at q; exact False.elim q
/-- a def of the head, by its text -/
theorem fnD_ok {R : Rc} {P : Program} {mg : Str → Option Value} {base : Heap} {k : Nat} {funs : List (Str × GF)} {cons : List (Str × AV)} {S0 : Cs} (T : TabOk R P mg base k funs cons S0) {Ex : Xt} (TX : XtOk R P mg Ex) (hxs : R.xs = none)
    {x qual : Str} {params : Arguments} {sts : List Stmt} {scope : Scope} {dvs : List V} {kws : List (Str × V)} {f : Addr} {fd : FuncData} {N ps : List Str} {n : Nat} {body : SF} (F : FunD R.K x qual params sts scope dvs kws f fd) (S : FnScope N ps scope)
    (hc : compSs n (cpOf N scope k funs cons Ex S0) sts = some body) :
    FnOk P R.w R.K mg base (L2.CX P R.w) (k + 1) f fd ps (SpOf R (runFn body N.length) ps.length) :=
  fn_okG F S (fun vs H Q E h => h.len) fun cdv A outer s H vs Q E hr h => body_ok T TX hxs S hc cdv A outer s H vs Q E hr h
theorem cxNew {P : Program} {w : World} : CXNew (L2.CX P w) := fun outer s H h2 p rest E e s' kp hp hn h => by
  obtain ⟨a, B, H', cls, d, h1, h3, h4, u, h5, h6, h7, h8⟩ := h
  have lt : ∀ b o, s.heap.get? b = some o → b ≠ p := fun b o e z => by
    exact absurd (Heap.lt_size e) (Nat.not_lt.mpr (z ▸ hp))
  refine ⟨a, B, H', cls, d, h1, h3, h4, ⟨fun b o e n f => u.keep b o (kp b o e) (by rw [upd_ne (lt b o e)]; exact n) f, fun b o e f => u.slot b o (kp b o e) f, fun b o e n => u.free b o (kp b o e) (by rw [upd_ne (lt b o e)]; exact n), fun b o e f => u.there b o (kp b o e) f,
    fun b xs z => u.tups b xs (by rw [upd_ne (ne_of_none z hn)]; exact z), fun b o xs z => u.frzs b o xs (by rw [upd_ne (ne_of_none z hn)]; exact z), fun b ps z => u.tbls b ps (by rw [upd_ne (ne_of_none z hn)]; exact z)⟩, h5, h6, h7, h8⟩
/-- a def f(a, .., *r), by its body: the star's tuple is laid at the call -/
theorem fn_ofVs {CX : CXT} {P : Program} {w : World} {K : PySem.W.Frag} {mg : Str → Option Value} {base : Heap} {k : Nat} {f : Addr} {name qual : Str} {params : Arguments} {body : List Stmt} {scope : Scope} {dV kV doc pm cdv ct oc : Value} {an od : Option Addr}
    {osl : Array (Option Value)} {N pa : List Str} {pv : Str} {nmax : Nat} {sp : Sp} (lk : K.lookup f = some ⟨oc, od, .func (PySem.W.fnOf name qual params body scope dV kV doc pm an cdv ct), osl⟩) (hcd : PySem.W.codeIn K cdv qual = true) (S : FnScope N (pa ++ [pv]) scope)
    (hz : nmax ≤ sizeLine) (hb : ∀ (us rest : List Value), us.length = pa.length → rest.length ≤ nmax → bindArgs (PySem.W.fnOf name qual params body scope dV kV doc pm an cdv ct) ⟨us ++ rest, []⟩ = (newTuple rest >>= fun t => pure ((pa ++ [pv]).zip (us ++ [t]))))
    (hCX : CXNew CX)
    (hbody : ∀ (A : Around) (outer : List Env) (s : Shared) (H : Hp) (vs : List V) (Q : VK) (E : XK), Room k (A.deeper (envOfC qual scope s.heap.objs.size f cdv)) → sp vs H Q E →
      ∃ t, PSs (cxOf CX P w K mg base N qual scope f cdv A outer s H E) body t ∧ t { nx := fun _ H' => Q .non H', rt := Q } (start N vs) H) :
    FnR P w K mg base CX (k + 1) f (fun vs H Q E => ∃ v rest, vs = v ++ rest ∧ v.length = pa.length ∧ rest.length ≤ nmax ∧ ∀ p, H p = none → sp (v ++ [.ref p]) (upd H p (.tup rest)) Q E) := by
  intro A outer s H ag us vs Q E hr e0 ea r hsp
  subst ea
  obtain ⟨v, rest, ev, hlv, hl, hq⟩ := hsp
  subst ev
  obtain ⟨u, ur, eu, rv, rr⟩ : ∃ u ur, us = u ++ ur ∧ Vals v u ∧ Vals rest ur := by
    refine ⟨us.take v.length, us.drop v.length, (List.take_append_drop _ _).symm, ?_, ?_⟩
    · have := L2.Vals.take v.length r
      rwa [List.take_left' rfl] at this
    · have := L2.Vals.drop v.length r
      rwa [List.drop_left' rfl] at this
  subst eu
  have hlu : u.length = pa.length := by rw [← rv.length]; exact hlv
  have hl' : ur.length ≤ nmax := by rw [← rr.length]; exact hl
  have KX : K.In s.heap := e0.mod.kin.keeps fun b o e => (e0.bs b o e).1
  have hn : H s.heap.objs.size = none := e0.hok.fresh (Nat.le_refl _)
  have hp := hq s.heap.objs.size hn
  have kp : ∀ b o, s.heap.get? b = some o → (s.heap.push ({ cls := .type "tuple", data := .seq ur.toArray } : Obj)).get? b = some o := fun b o e => Heap.get?_push_of_some _ e
  have new : ObjOk P w (upd H s.heap.objs.size (.tup rest)) (s.heap.push ({ cls := .type "tuple", data := .seq ur.toArray } : Obj)) s.heap.objs.size (.tup rest) :=
    ⟨Nat.le_trans hl hz, ur, rr, ⟨_, Heap.get?_push_size _ rfl, rfl, _, rfl⟩⟩
  have hok2 := e0.hok.laid kp (Nat.le_refl _) new
  have un : Un (frs outer) [] H (upd H s.heap.objs.size (.tup rest)) s.heap (s.heap.push ({ cls := .type "tuple", data := .seq ur.toArray } : Obj)) := Un.laid kp (Nat.le_refl _) hn
  have e2 : Env0 P w K mg base A outer { s with heap := s.heap.push ({ cls := .type "tuple", data := .seq ur.toArray } : Obj) } (upd H s.heap.objs.size (.tup rest)) := by
    refine ⟨e0.frames, e0.mod, fun b o e => ⟨kp b o (e0.bs b o e).1, ?_⟩, ?_, Heap.FunFrames.of_keeps (fun b o e _ => ⟨o, kp b o e, rfl⟩) e0.funs, fun b hb' => ?_, hok2, e0.bare⟩
    · rw [upd_ne (Nat.ne_of_lt (Heap.lt_size (e0.bs b o e).1))]
      exact (e0.bs b o e).2
    · show base.objs.size ≤ (s.heap.push _).objs.size
      rw [Heap.size_push]
      exact Nat.le_succ_of_le e0.bsz
    · obtain ⟨_, o, ho, _⟩ := e0.funs.mem hb'
      rw [upd_ne (Nat.ne_of_lt (Heap.lt_size ho))]
      exact e0.frf b hb'
  have lim : (s.heap.push ({ cls := .type "tuple", data := .seq ur.toArray } : Obj)).NoLimit := e0.mod.nolimit.keeps fun b o e => (e2.bs b o e).1
  have hkind : ∀ y ∈ (pa ++ [pv]).zip (u ++ [Value.ref s.heap.objs.size]), scope.names.lookup y.1 = some .local ∨
      (scope.names.lookup y.1 = some .cell ∧ ((cellsFrom ((s.heap.push ({ cls := .type "tuple", data := .seq ur.toArray } : Obj)).objs.size + 1) scope.names []).lookup y.1).isSome = true) := fun y hy => by
    rcases S.par y.1 (List.of_mem_zip hy).1 with q | q
    · exact .inl q
    · exact .inr ⟨q, PySem.W.cellsFrom_some _ _ _ (.inl q)⟩
  refine codeAny_call_function hr.depth (KX _ _ lk) rfl S.co S.gen rfl (PySem.W.codeRec_of KX hcd) ?_
  rw [hb u ur hlu hl']
  refine wpAny_bind (wpAny_newTuple (wpAny_pure ?_) (Nat.le_trans hl' hz))
  refine wpAny_newFunctionEnv_cells (s := { s with heap := s.heap.push ({ cls := .type "tuple", data := .seq ur.toArray } : Obj) }) S.kind hkind fun env he s1 x => ?_
  subst he
  refine ⟨lim.keeps x.toInCall.keep, codeAny_func ?_⟩
  obtain ⟨t, ht, hq'⟩ := hbody A outer { s with heap := s.heap.push ({ cls := .type "tuple", data := .seq ur.toArray } : Obj) } (upd H s.heap.objs.size (.tup rest)) (v ++ [.ref s.heap.objs.size]) Q E (hr.deeper _) hp
  have r2 : Vals (v ++ [V.ref s.heap.objs.size]) (u ++ [Value.ref s.heap.objs.size]) := rv.append (.cons rfl .nil)
  have I : Inv (cxOf CX P w K mg base N qual scope f cdv A outer { s with heap := s.heap.push ({ cls := .type "tuple", data := .seq ur.toArray } : Obj) } (upd H s.heap.objs.size (.tup rest)) E) [] (start N (v ++ [.ref s.heap.objs.size])) (upd H s.heap.objs.size (.tup rest)) s1 :=
    inv_start S hr.hd e2 (by rw [List.length_append, List.length_append, hlv]; rfl) r2 x
  refine wpAny_mono (ht.run [] s1 _ _ _ I hq') (fun fl s' hs => ?_) fun e s' hs => ?_
  · have fin : ∀ {σ' : L2.St} {H' : Hp} {v' : V} {u' : Value}, Inv (cxOf CX P w K mg base N qual scope f cdv A outer { s with heap := s.heap.push ({ cls := .type "tuple", data := .seq ur.toArray } : Obj) } (upd H s.heap.objs.size (.tup rest)) E) [] σ' H' s' → RelV v' u' → Q v' H' →
        CE outer P w H s Q u' s' := fun {σ' H' v' u'} J rv' q => ⟨v', H', J.os, J.bare, un.trans J.base, J.hok, rv', q⟩
    cases fl with
    | ret u' =>
      obtain ⟨v', σ', H', J, rv', q⟩ := hs
      exact fin J rv' q
    | next =>
      obtain ⟨σ', H', J, q⟩ := hs
      exact fin (v' := V.non) (u' := Value.none) J rfl q
    | brk =>
      obtain ⟨_, _, _, q⟩ := hs
      exact False.elim q
    | cont =>
      obtain ⟨_, _, _, q⟩ := hs
      exact False.elim q
  · exact wpAny_mono hs (fun _ s'' z => hCX outer s H _ _ rest E e s'' kp (Nat.le_refl _) hn z) fun e' s'' z => hCX outer s H _ _ rest E e' s'' kp (Nat.le_refl _) hn z
/-- a def of the head with a star, by its text -/
theorem fnV_ok {R : Rc} {P : Program} {mg : Str → Option Value} {base : Heap} {k : Nat} {funs : List (Str × GF)} {cons : List (Str × AV)} {S0 : Cs} (T : TabOk R P mg base k funs cons S0) {Ex : Xt} (TX : XtOk R P mg Ex) (hxs : R.xs = none)
    {x qual : Str} {params : Arguments} {sts : List Stmt} {scope : Scope} {kws : List (Str × V)} {f : Addr} {fd : FuncData} {N pa : List Str} {pv : Str} {n : Nat} {body : SF} (F : FunD R.K x qual params sts scope [] kws f fd) (S : FnScope N (pa ++ [pv]) scope)
    (hc : compSs n (cpOf N scope k funs cons Ex S0) sts = some body)
    (hb : ∀ (kV doc pm : Value) (an : Option Addr) (cdv ct : Value) (us rest : List Value), us.length = pa.length → rest.length ≤ 5 → bindArgs (PySem.W.fnOf x qual params sts scope .none kV doc pm an cdv ct) ⟨us ++ rest, []⟩ = (newTuple rest >>= fun t => pure ((pa ++ [pv]).zip (us ++ [t])))) :
    FnR P R.w R.K mg base (L2.CX P R.w) (k + 1) f (SpG R ⟨runFn body N.length, pa.length, [], true⟩) := by
  obtain ⟨oc, od, dV, kV, doc, pm, an, cdv, ct, osl, rfl, lk, hcd, hD, _⟩ := F.ex
  have hdV : dV = .none := by
    rcases hD with ⟨_, e⟩ | ⟨e, _⟩
    · exact e
    · exact absurd rfl e
  subst hdV
  refine FnR.imp (fn_ofVs (nmax := 5) lk hcd S (by decide) (hb kV doc pm an cdv ct) cxNew fun A outer s H vs Q E hr h => body_ok T TX hxs S hc cdv A outer s H vs Q E hr h) fun vs H Q E h => ?_
  obtain ⟨ι, A0, as, M, r, q⟩ := h
  unfold gCall at q
  simp only [if_true] at q
  by_cases hl : pa.length ≤ as.length ∧ as.length ≤ pa.length + 5
  · rw [if_pos hl] at q
    have hlv := r.length
    refine ⟨vs.take pa.length, vs.drop pa.length, (List.take_append_drop _ _).symm, by rw [List.length_take, ← hlv]; omega, by rw [List.length_drop, ← hlv]; omega, fun p hp => ?_⟩
    have U : Up R ι ι H (upd H p (.tup (vs.drop pa.length))) := Up.laid hp
    refine ⟨ι, A0, as.take pa.length ++ [.tup (as.drop pa.length)], M.laid hp, ((r.up U).take _).append (VRs.one (mk_tup (.inl (.inl upd_same)) ((r.up U).dropV _))), ?_, q.up U⟩
    rw [List.length_append, List.length_take, List.length_append]
    show _ = pa.length + 1
    simp only [List.length_cons, List.length_nil]
    omega
  · rw [if_neg hl] at q
    exact False.elim q
/-- the law's own promise -/
theorem law_sp {R : Rc} {fn : Fn} {H : Hp} {a : Addr} {ns : List Int} (hJ : R.J [] H) (hO : Only H) (hS : SqL R.K H a (ns.map V.int)) {A' : AH} (e : fn [.fl (ns.map AV.int)] [] = .ok (.bl true) A') : SpOf R fn 1 [.ref a] H (fun v _ => v = .bl true) fun _ _ _ => False := by
  refine ⟨[], [], [.fl (ns.map AV.int)], ⟨rfl, List.nodup_nil, fun n o b h => (by simp at h), hJ⟩, VRs.one ?_, rfl, ?_⟩
  · unfold VR
    refine ⟨a, ns.map V.int, rfl, ?_, ?_⟩
    · rcases hS with (h | ⟨ob, h⟩) | h
      · rcases hO a with z | ⟨ob, xs, z⟩
        · rw [z] at h; cases h
        · rw [z] at h; cases h
      · exact .inl ⟨ob, h⟩
      · exact .inr h
    · clear hS e
      induction ns with
      | nil => unfold VRs; rfl
      | cons n ns ih => unfold VRs; exact ⟨.int n, ns.map V.int, rfl, mk_int, ih⟩
  · rw [e]
    exact fun ι' H' x _ _ r => vr_bl r
theorem cx_none {P : Program} {w : World} (H : Hp) (s : Shared) (e : Value) (s' : Shared) : L2.CX P w [] H s (fun _ _ _ => False) e s' → False := fun h => by
  obtain ⟨_, _, _, _, _, _, _, _, _, _, _, _, z⟩ := h
  exact z
/-- the end of a law row, exceptions told by the world -/
theorem walkW {l : PySem.W.OpenLaw} {n k : Nat} {q : Program} {loose : List Str} {XP : (Str → Option Value) → Heap → Prop} {YP : World → Heap → Prop} {d : DefRec} {CX : World → CXT} {x : Str}
    (hn : l.most = some n) (hn2 : n ≤ sizeLine) (hdf : d.params.defaults = []) (hr : L2.Room k callerA)
    (F : ∀ (w : World) (mg : Str → Option Value) (fa : Addr) (h : Heap), YP w h → h.Ns mainGlobals mg → mg d.name = some (.ref fa) →
      ∃ (K : PySem.W.Frag) (fd : FuncData) (sp : Sp), K.In h ∧ (∀ (s : Shared) (u : Value), BindsTo s fd ⟨[u], []⟩ [(x, u)]) ∧
        (∀ (H : Hp) (a : Addr) (ns : List Int), ns.length ≤ n → Only H → SqL K H a (ns.map V.int) → sp [.ref a] H (fun v _ => v = .bl true) fun _ _ _ => False) ∧
        ∀ base : Heap, K.In base → base.Ns mainGlobals mg → FnOk l.prog w K mg base (CX w) k fa fd [x] sp)
    (hCX : ∀ (w : World) (H : Hp) (s : Shared) (e : Value) (s' : Shared), CX w [] H s (fun _ _ _ => False) e s' → False) :
    PySem.W.WalkO q loose XP YP l.row.toRowW d [] (fun f vs => PySem.call f vs) := by
  refine Att.attach_call hn hdf fun w s₀ s₁ mg mb fa o pm cd doc a vs ns G Y ho hd hcd hmg hobj hints hlen hg => ?_
  obtain ⟨K, fd, sp, KX, hb, hsp, hF⟩ := F w mg fa _ Y G.T.g hmg
  exact law_runs KX G.T.g G.T.b G.T.builtins G.T.nolimit hg hobj hints (Nat.le_trans hlen hn2) ⟨hr, rfl⟩ hF hb (fun H hO hS => hsp H a ns hlen hO hS) fun H e s' => hCX w H s₁ e s'
end Sh

set_option Elab.async false
set_option linter.all false
set_option maxRecDepth 100000
set_option maxHeartbeats 2000000
namespace Sh
open PySem L2 PyProof.Rows

/-! ### what holds of a result -/
class Kr (α : Type) where
  V : α → AH → Prop
  X : Str → List (Str × AV) → AH → Prop
class Ks where
  N : LSt → AH → Prop
  V : AV → AH → Prop
  X : Str → List (Str × AV) → LSt → AH → Prop
  B : LSt → AH → Prop
  C : LSt → AH → Prop
def Res.W {α : Type} (r : Res α) [k : Kr α] : Prop := match r with
  | .ok a A => k.V a A
  | .exc c fs A => k.X c fs A
  | .bad => False
def SRes.W (r : SRes) [k : Ks] : Prop := match r with
  | .nx ℓ A => k.N ℓ A
  | .rt v A => k.V v A
  | .bk ℓ A => k.B ℓ A
  | .ct ℓ A => k.C ℓ A
  | .exc c fs ℓ A => k.X c fs ℓ A
  | .bad => False
section
variable {α β : Type} {ℓ : LSt} {A : AH} {kv : Kr AV} {kb : Kr Bool} {kl : Kr (List AV)} {ko : Kr (Option Int)} {kw : Kr Walk} {k : Kr α} {kβ : Kr β} {K : Ks}
@[simp] theorem Wr_ok {a : α} : @Res.W α (.ok a A) k = k.V a A := (rfl)
@[simp] theorem Wr_exc {c : Str} {fs : List (Str × AV)} : @Res.W α (.exc c fs A) k = k.X c fs A := (rfl)
@[simp] theorem Ws_nx : @SRes.W (.nx ℓ A) K = K.N ℓ A := (rfl)
@[simp] theorem Ws_rt {v : AV} : @SRes.W (.rt v A) K = K.V v A := (rfl)
@[simp] theorem Ws_bk : @SRes.W (.bk ℓ A) K = K.B ℓ A := (rfl)
@[simp] theorem Ws_ct : @SRes.W (.ct ℓ A) K = K.C ℓ A := (rfl)
@[simp] theorem Ws_exc {c : Str} {fs : List (Str × AV)} : @SRes.W (.exc c fs ℓ A) K = K.X c fs ℓ A := (rfl)
@[simp ↓] theorem bind_W {r : Res α} {f : α → AH → Res β} : @Res.W β (r.bind f) kβ = @Res.W α r ⟨fun a A => @Res.W β (f a A) kβ, kβ.X⟩ := by cases r <;> rfl
@[simp ↓] theorem toS_W {r : Res α} {f : α → AH → SRes} : @SRes.W (r.toS ℓ f) K = @Res.W α r ⟨fun a A => @SRes.W (f a A) K, fun c fs A => K.X c fs ℓ A⟩ := by cases r <;> rfl
@[simp ↓] theorem noX_W {r : Res α} : @Res.W α (noX r) k = @Res.W α r ⟨k.V, fun _ _ _ => False⟩ := by cases r <;> rfl
@[simp] theorem bind_ok {a : α} {f : α → AH → Res β} : (Res.ok a A).bind f = f a A := (rfl)
@[simp] theorem toS_ok {a : α} {f : α → AH → SRes} : (Res.ok a A).toS ℓ f = f a A := (rfl)
theorem Wr_mono {r : Res α} {k' : Kr α} (h : @Res.W α r k) (hV : ∀ a A, k.V a A → k'.V a A) (hX : ∀ c fs A, k.X c fs A → k'.X c fs A) : @Res.W α r k' := by
  cases r with
  | ok a A => exact hV _ _ h
  | exc c fs A => exact hX _ _ _ h
  | bad => exact h
theorem eq_of_W {r : Res α} {v : α} {A1 : AH} (h : @Res.W α r ⟨fun a A' => a = v ∧ A' = A1, fun _ _ _ => False⟩) : r = .ok v A1 := by
  cases r with
  | ok a A => obtain ⟨rfl, rfl⟩ := h; rfl
  | exc => exact h.elim
  | bad => exact h.elim
theorem ex_of_W {r : Res α} {c : Str} {fs : List (Str × AV)} {A1 : AH} (h : @Res.W α r ⟨fun _ _ => False, fun c' fs' A' => c' = c ∧ fs' = fs ∧ A' = A1⟩) : r = .exc c fs A1 := by
  cases r with
  | ok a A => exact h.elim
  | exc => obtain ⟨rfl, rfl, rfl⟩ := h; rfl
  | bad => exact h.elim
theorem ex_W {r : Res α} {P : α → AH → Prop} (h : @Res.W α r ⟨P, fun _ _ _ => False⟩) : ∃ a A', r = .ok a A' ∧ P a A' := by
  cases r with
  | ok a A => exact ⟨a, A, rfl, h⟩
  | exc => exact h.elim
  | bad => exact h.elim
/-! ### statements -/
@[simp ↓] theorem sNext_W : @SRes.W (sNext ℓ A) K = K.N ℓ A := (rfl)
@[simp ↓] theorem sBrk_W : @SRes.W (sBrk ℓ A) K = K.B ℓ A := (rfl)
@[simp ↓] theorem sCnt_W : @SRes.W (sCnt ℓ A) K = K.C ℓ A := (rfl)
@[simp ↓] theorem sSeq_W {f g : SF} : @SRes.W (sSeq f g ℓ A) K = @SRes.W (f ℓ A) ⟨fun ℓ A => @SRes.W (g ℓ A) K, K.V, K.X, K.B, K.C⟩ := by
  show @SRes.W (match f ℓ A with | .nx ℓ' A' => g ℓ' A' | r => r) K = _
  cases f ℓ A <;> rfl
@[simp ↓] theorem sExpr_W {f : EF} : @SRes.W (sExpr f ℓ A) K = @Res.W AV (f ℓ A) ⟨fun _ A => K.N ℓ A, fun c fs A => K.X c fs ℓ A⟩ := toS_W
@[simp ↓] theorem sRet_W {f : EF} : @SRes.W (sRet f ℓ A) K = @Res.W AV (f ℓ A) ⟨K.V, fun c fs A => K.X c fs ℓ A⟩ := toS_W
@[simp ↓] theorem sRetN_W : @SRes.W (sRetN ℓ A) K = K.V .non A := (rfl)
@[simp ↓] theorem sIf_W {t : TF} {f g : SF} : @SRes.W (sIf t f g ℓ A) K = @Res.W Bool (t ℓ A) ⟨fun b A => @SRes.W (if b then f ℓ A else g ℓ A) K, fun c fs A => K.X c fs ℓ A⟩ := toS_W
@[simp ↓] theorem sSet_W {i : Nat} {f : EF} : @SRes.W (sSet i f ℓ A) K = @Res.W AV (f ℓ A) ⟨fun v A => K.N (ℓ.set i (some v)) A, fun c fs A => K.X c fs ℓ A⟩ := toS_W
def putS (o i v : AV) (ℓ : LSt) (A : AH) : SRes := match opSet o i v A with | some A' => .nx ℓ A' | none => .bad
@[simp ↓] theorem sSub_W {fv fo fi : EF} : @SRes.W (sSub fv fo fi ℓ A) K = @Res.W AV (fv ℓ A) ⟨fun v A => @Res.W AV (fo ℓ A) ⟨fun o A => @Res.W AV (fi ℓ A) ⟨fun i A => @SRes.W (putS o i v ℓ A) K, fun c fs A => K.X c fs ℓ A⟩, fun c fs A => K.X c fs ℓ A⟩, fun c fs A => K.X c fs ℓ A⟩ := by
  show @SRes.W ((fv ℓ A).toS ℓ _) K = _
  rw [toS_W]
  cases fv ℓ A with
  | ok v A =>
    simp only [Wr_ok, toS_W]
    cases fo ℓ A with
    | ok o A => exact toS_W
    | _ => rfl
  | _ => rfl
theorem put_W {o i v : AV} {A' : AH} (h : opSet o i v A = some A') : @SRes.W (putS o i v ℓ A) K = K.N ℓ A' := by unfold putS; rw [h]; rfl
@[simp ↓] theorem sRaise_W {x f : Str} {fe : EF} : @SRes.W (sRaise x f fe ℓ A) K = @Res.W AV (fe ℓ A) ⟨fun v A => K.X x [(f, v)] ℓ A, fun c fs A => K.X c fs ℓ A⟩ := toS_W
@[simp ↓] theorem sFor_W {it : IF} {tg : GF1} {body : SF} : @SRes.W (sFor it tg body ℓ A) K = @Res.W Walk (it ℓ A) ⟨fun w A => @SRes.W (forLoop w tg body w.n 0 ℓ A) K, fun c fs A => K.X c fs ℓ A⟩ := toS_W
/-- what is asked where a clause may catch -/
class Kc where
  P : Str → List (Str × AV) → LSt → AH → Prop
def Caught (c : Str) (xs : List (Str × AV)) (ℓ : LSt) (A : AH) (i : Nat) (cat : Str → Option Bool) (fs : Str → List (Str × AV) → SF) [K : Ks] : Prop := match cat c with
      | some true => i < ℓ.length ∧ @SRes.W (fs c xs (ℓ.set i none) A) ⟨fun ℓ2 A2 => K.N (ℓ2.set i none) A2, K.V, fun _ _ _ _ => False, fun ℓ2 A2 => K.B (ℓ2.set i none) A2, fun ℓ2 A2 => K.C (ℓ2.set i none) A2⟩
      | some false => K.X c xs ℓ A
      | none => False
@[simp ↓] theorem sTry_W {fb : SF} {i : Nat} {cat : Str → Option Bool} {fs : Str → List (Str × AV) → SF} : @SRes.W (sTry fb i cat fs ℓ A) K = @SRes.W (fb ℓ A) ⟨K.N, K.V, fun c xs ℓ' A' => @Caught c xs ℓ' A' i cat fs K, K.B, K.C⟩ := by
  unfold sTry
  cases e : fb ℓ A with
  | exc c xs ℓ' A' =>
    show _ = @Caught c xs ℓ' A' i cat fs K
    unfold Caught
    cases ec : cat c with
    | none => simp only [ec]; rfl
    | some b =>
      cases b with
      | false => simp only [ec]; rfl
      | true =>
        simp only [ec]
        by_cases hi : i < ℓ'.length
        · rw [if_pos hi]
          cases ef : fs c xs (ℓ'.set i none) A' <;> simp [hi, SRes.W]
        · rw [if_neg hi]
          simp [hi, SRes.W]
  | _ => rfl
theorem caught_W {c : Str} {xs : List (Str × AV)} {i : Nat} {cat : Str → Option Bool} {fs : Str → List (Str × AV) → SF} (hc : cat c = some true) (hi : i < ℓ.length) : @Caught c xs ℓ A i cat fs K = @SRes.W (fs c xs (ℓ.set i none) A) ⟨fun ℓ2 A2 => K.N (ℓ2.set i none) A2, K.V, fun _ _ _ _ => False, fun ℓ2 A2 => K.B (ℓ2.set i none) A2, fun ℓ2 A2 => K.C (ℓ2.set i none) A2⟩ := by
  unfold Caught
  simp [hc, hi]
theorem run_W {body : SF} {n : Nat} {as : List AV} (h : @SRes.W (body (as.map some ++ List.replicate (n - as.length) none) A) ⟨fun _ A => kv.V .non A, kv.V, fun c fs _ A => kv.X c fs A, fun _ _ => False, fun _ _ => False⟩) : @Res.W AV (runFn body n as A) kv := by
  unfold runFn
  cases e : body (as.map some ++ List.replicate (n - as.length) none) A <;> rw [e] at h <;> exact h
/-! ### expressions -/
@[simp ↓] theorem eC_W {v : AV} : @Res.W AV (eC v ℓ A) kv = kv.V v A := (rfl)
@[simp ↓] theorem eOp_W {g : AV → AV → AH → Res AV} {f1 f2 : EF} : @Res.W AV (eOp g f1 f2 ℓ A) kv = @Res.W AV (f1 ℓ A) ⟨fun a A => @Res.W AV (f2 ℓ A) ⟨fun b A => @Res.W AV (g a b A) kv, kv.X⟩, kv.X⟩ := by
  show @Res.W AV ((f1 ℓ A).bind _) kv = _
  rw [bind_W]
  cases f1 ℓ A <;> first | rfl | exact bind_W
@[simp ↓] theorem eUn_W {g : AV → AH → Res AV} {f1 : EF} : @Res.W AV (eUn g f1 ℓ A) kv = @Res.W AV (f1 ℓ A) ⟨fun a A => @Res.W AV (g a A) kv, kv.X⟩ := bind_W
@[simp ↓] theorem aNil_W : @Res.W (List AV) (aNil ℓ A) kl = kl.V [] A := (rfl)
@[simp ↓] theorem aCons_W {f : EF} {r : AF} : @Res.W (List AV) (aCons f r ℓ A) kl = @Res.W AV (f ℓ A) ⟨fun a A => @Res.W (List AV) (r ℓ A) ⟨fun as A => kl.V (a :: as) A, kl.X⟩, kl.X⟩ := by
  show @Res.W (List AV) ((f ℓ A).bind _) kl = _
  rw [bind_W]
  cases f ℓ A <;> first | rfl | exact bind_W
@[simp ↓] theorem eTup_W {f : AF} : @Res.W AV (eTup f ℓ A) kv = @Res.W (List AV) (f ℓ A) ⟨fun as A => @Res.W AV (if as.length ≤ sizeLine then .ok (.tup as) A else .bad) kv, kv.X⟩ := bind_W
@[simp ↓] theorem eLst_W {f : AF} : @Res.W AV (eLst f ℓ A) kv = @Res.W (List AV) (f ℓ A) ⟨fun as A => @Res.W AV (if as.length ≤ sizeLine then .ok (.ref A.length) (A ++ [.lst as]) else .bad) kv, kv.X⟩ := bind_W
@[simp ↓] theorem eIf_W {t : TF} {f g : EF} : @Res.W AV (eIf t f g ℓ A) kv = @Res.W Bool (t ℓ A) ⟨fun b A => @Res.W AV (if b then f ℓ A else g ℓ A) kv, kv.X⟩ := bind_W
@[simp ↓] theorem tNotF_W {t : TF} : @Res.W Bool (tNotF t ℓ A) kb = @Res.W Bool (t ℓ A) ⟨fun b A => kb.V (!b) A, kb.X⟩ := bind_W
@[simp ↓] theorem tAndF_W {t u : TF} : @Res.W Bool (tAndF t u ℓ A) kb = @Res.W Bool (t ℓ A) ⟨fun b A => @Res.W Bool (if b then u ℓ A else .ok false A) kb, kb.X⟩ := bind_W
@[simp ↓] theorem tOrF_W {t u : TF} : @Res.W Bool (tOrF t u ℓ A) kb = @Res.W Bool (t ℓ A) ⟨fun b A => @Res.W Bool (if b then .ok true A else u ℓ A) kb, kb.X⟩ := bind_W
@[simp] theorem asBl_bl {b : Bool} : asBl (.bl b) A = .ok b A := (rfl)
@[simp ↓] theorem tOfE_W {f : EF} : @Res.W Bool (tOfE f ℓ A) kb = @Res.W AV (f ℓ A) ⟨fun a A => @Res.W Bool (asBl a A) kb, kb.X⟩ := bind_W
def truR (a : AV) (A : AH) : Res Bool := match truA a A with | some k => .ok k A | none => .bad
@[simp] theorem truR_bl {b : Bool} : truR (.bl b) A = .ok b A := (rfl)
@[simp] theorem truR_non : truR .non A = .ok false A := (rfl)
@[simp] theorem truR_int {i : Int} : truR (.int i) A = .ok (i != 0) A := (rfl)
@[simp] theorem truR_tup {xs : List AV} : truR (.tup xs) A = .ok (!xs.isEmpty) A := (rfl)
theorem truR_lst {n : Nat} {xs : List AV} (h : A.lst? n = some xs) : truR (.ref n) A = .ok (!xs.isEmpty) A := by
  unfold truR truA
  simp [sq?, h]
@[simp ↓] theorem tTruF_W {f : EF} : @Res.W Bool (tTruF f ℓ A) kb = @Res.W AV (f ℓ A) ⟨fun a A => @Res.W Bool (truR a A) kb, kb.X⟩ := bind_W
def andR (a : AV) (r : AH → Res AV) (A : AH) : Res AV := match a with | .bl b => if b then r A else .ok (.bl false) A | _ => .bad
def orR (a : AV) (r : AH → Res AV) (A : AH) : Res AV := match a with | .bl b => if b then .ok (.bl true) A else r A | _ => .bad
def notR (a : AV) (A : AH) : Res AV := match a with | .bl b => .ok (.bl (!b)) A | _ => .bad
@[simp ↓] theorem andR_bl {b : Bool} {r : AH → Res AV} : andR (.bl b) r A = if b then r A else .ok (.bl false) A := (rfl)
@[simp ↓] theorem orR_bl {b : Bool} {r : AH → Res AV} : orR (.bl b) r A = if b then .ok (.bl true) A else r A := (rfl)
@[simp] theorem notR_bl {b : Bool} : notR (.bl b) A = .ok (.bl (!b)) A := (rfl)
@[simp ↓] theorem eAndF_W {f g : EF} : @Res.W AV (eAndF f g ℓ A) kv = @Res.W AV (f ℓ A) ⟨fun a A => @Res.W AV (andR a (g ℓ) A) kv, kv.X⟩ := bind_W
@[simp ↓] theorem eOrF_W {f g : EF} : @Res.W AV (eOrF f g ℓ A) kv = @Res.W AV (f ℓ A) ⟨fun a A => @Res.W AV (orR a (g ℓ) A) kv, kv.X⟩ := bind_W
@[simp ↓] theorem eNotF_W {f : EF} : @Res.W AV (eNotF f ℓ A) kv = @Res.W AV (f ℓ A) ⟨fun a A => @Res.W AV (notR a A) kv, kv.X⟩ := bind_W
@[simp ↓] theorem eCB_W {g : List AV → AH → Res AV} {f : AF} : @Res.W AV (eCB g f ℓ A) kv = @Res.W (List AV) (f ℓ A) ⟨fun as A => @Res.W AV (g as A) kv, kv.X⟩ := bind_W
@[simp ↓] theorem eCall_W {g : GF} {f : AF} : @Res.W AV (eCall g f ℓ A) kv = @Res.W (List AV) (f ℓ A) ⟨fun as A => @Res.W AV (gCall g as A) kv, kv.X⟩ := bind_W
@[simp ↓] theorem gCall_W {g : GF} {as : List AV} : gCall g as A = if g.rest = true then (if g.np ≤ as.length ∧ as.length ≤ g.np + 5 then g.fn (as.take g.np ++ [.tup (as.drop g.np)]) A else .bad) else if as.length ≤ g.np ∧ g.np ≤ as.length + g.dv.length then g.fn (as ++ g.dv.drop (as.length + g.dv.length - g.np)) A else .bad := (rfl)
@[simp ↓] theorem eBM_W {T : RT} {g : AV → List AV → AH → Res AV} {fo : EF} {fa : AF} : @Res.W AV (eBM T g fo fa ℓ A) kv = @Res.W AV (fo ℓ A) ⟨fun a A => rcv T a A = true ∧ @Res.W (List AV) (fa ℓ A) ⟨fun as A => @Res.W AV (g a as A) kv, kv.X⟩, kv.X⟩ := by
  show @Res.W AV ((fo ℓ A).bind _) kv = _
  rw [bind_W]
  cases fo ℓ A with
  | ok a A =>
    show @Res.W AV (if rcv T a A then _ else _) kv = (_ ∧ _)
    by_cases h : rcv T a A = true
    · rw [if_pos h, bind_W]; simp [h]
    · rw [if_neg h]; simp [h, Res.W]
  | _ => rfl
@[simp ↓] theorem eSl_W {f : EF} {l h : OF} : @Res.W AV (eSl f l h ℓ A) kv = @Res.W AV (f ℓ A) ⟨fun a A => @Res.W (Option Int) (l ℓ A) ⟨fun lo A => @Res.W (Option Int) (h ℓ A) ⟨fun hi A => @Res.W AV (opSl a lo hi A) kv, kv.X⟩, kv.X⟩, kv.X⟩ := by
  show @Res.W AV ((f ℓ A).bind _) kv = _
  rw [bind_W]
  cases f ℓ A with
  | ok a A =>
    simp only [Wr_ok, bind_W]
    cases l ℓ A <;> first | rfl | exact bind_W
  | _ => rfl
@[simp ↓] theorem oNone_W : @Res.W (Option Int) (oNone ℓ A) ko = ko.V none A := (rfl)
def intR (a : AV) (A : AH) : Res (Option Int) := match a with | .int i => .ok (some i) A | _ => .bad
@[simp] theorem intR_int {i : Int} : intR (.int i) A = .ok (some i) A := (rfl)
@[simp ↓] theorem oSome_W {f : EF} : @Res.W (Option Int) (oSome f ℓ A) ko = @Res.W AV (f ℓ A) ⟨fun a A => @Res.W (Option Int) (intR a A) ko, ko.X⟩ := bind_W
@[simp ↓] theorem iVal_W {f : EF} : @Res.W Walk (iVal f ℓ A) kw = @Res.W AV (f ℓ A) ⟨fun a A => @Res.W Walk (asWalk a A) kw, kw.X⟩ := bind_W
def rangeR (as : List AV) (A : AH) : Res Walk := match as with
  | [.int j] => if w62 j then .ok (wPure (rangeA 0 j.toNat)) A else .bad
  | [.int i, .int j] => if w62 i && w62 j then .ok (wPure (rangeA i (j - i).toNat)) A else .bad
  | _ => .bad
@[simp] theorem rangeR1 {j : Int} : rangeR [.int j] A = if w62 j then .ok (wPure (rangeA 0 j.toNat)) A else .bad := (rfl)
@[simp] theorem rangeR2 {i j : Int} : rangeR [.int i, .int j] A = if w62 i && w62 j then .ok (wPure (rangeA i (j - i).toNat)) A else .bad := (rfl)
@[simp ↓] theorem iRange_W {f : AF} : @Res.W Walk (iRange f ℓ A) kw = @Res.W (List AV) (f ℓ A) ⟨fun as A => @Res.W Walk (rangeR as A) kw, kw.X⟩ := bind_W
@[simp ↓] theorem eLc_W {it : IF} {tg : GF1} {t : TF} {elt : EF} {vs : List Nat} : @Res.W AV (eLc it tg t elt vs ℓ A) kv = @Res.W Walk (it ℓ A) ⟨fun w A => @Res.W (List AV) (lcLoop w tg t elt (wipeA ℓ vs) w.n 0 [] A) ⟨fun acc A => kv.V (.ref A.length) (A ++ [.lst acc]), kv.X⟩, kv.X⟩ := by
  show @Res.W AV ((it ℓ A).bind _) kv = _
  rw [bind_W]
  cases it ℓ A with
  | ok w A => exact bind_W
  | _ => rfl
def chainR (z : AV) (r : AH → Res AV) (A : AH) : Res AV := match z with | .bl k => if k then r A else .ok (.bl false) A | _ => .bad
@[simp ↓] theorem chainR_bl {b : Bool} {r : AH → Res AV} : chainR (.bl b) r A = if b then r A else .ok (.bl false) A := (rfl)
@[simp ↓] theorem eChain_W {g h : AV → AV → AH → Res AV} {f1 f2 f3 : EF} : @Res.W AV (eChain g h f1 f2 f3 ℓ A) kv = @Res.W AV (f1 ℓ A) ⟨fun a A => @Res.W AV (f2 ℓ A) ⟨fun b A => @Res.W AV (g a b A) ⟨fun z A => @Res.W AV (chainR z (fun A => eUn (h b) f3 ℓ A) A) kv, kv.X⟩, kv.X⟩, kv.X⟩ := by
  show @Res.W AV ((f1 ℓ A).bind _) kv = _
  rw [bind_W]
  cases f1 ℓ A with
  | ok a A =>
    simp only [Wr_ok, bind_W]
    cases f2 ℓ A with
    | ok b A => exact bind_W
    | _ => rfl
  | _ => rfl
def fldR (fs : List (Str × AV)) (f : Str) (A : AH) : Res AV := match fs.lookup f with | some v => .ok v A | none => .bad
@[simp] theorem fldR_1 {f : Str} {v : AV} {fs : List (Str × AV)} : fldR ((f, v) :: fs) f A = .ok v A := by unfold fldR; simp
@[simp ↓] theorem eFld_W {fs : List (Str × AV)} {f : Str} : @Res.W AV (eFld fs f ℓ A) kv = @Res.W AV (fldR fs f A) kv := (rfl)
def isxR (tb : List ((Str × Str) × Bool)) (c m : Str) (A : AH) : Res AV := match tb.lookup (c, m) with | some b => .ok (.bl b) A | none => .bad
@[simp ↓] theorem eIsx_W {tb : List ((Str × Str) × Bool)} {c m : Str} : @Res.W AV (eIsx tb c m ℓ A) kv = @Res.W AV (isxR tb c m A) kv := (rfl)
@[simp ↓] theorem eDct_W {ps : List (EF × EF)} : @Res.W AV (eDct ps ℓ A) kv = @Res.W (List (Key × AV)) (pairsF ps ℓ A) ⟨fun kvs A => @Res.W AV (if kvs.length ≤ 15 then .ok (.ref A.length) (A ++ [.dct (mergeA [] kvs)]) else .bad) kv, kv.X⟩ := bind_W
/-! ### loops -/
theorem forW {w : Walk} {tg : GF1} {body : SF} (I : Nat → LSt → AH → Prop) {n : Nat}
    (hs : ∀ k ℓ A, k < n → I k ℓ A → ∃ x ℓ1, w.get k A = some x ∧ tg x ℓ A = some ℓ1 ∧ @SRes.W (body ℓ1 A) ⟨I (k + 1), K.V, K.X, K.N, I (k + 1)⟩)
    (hN : ∀ ℓ A, I n ℓ A → w.stop A = true ∧ K.N ℓ A) : ∀ (m i : Nat) (ℓ : LSt) (A : AH), i + m = n → I i ℓ A → @SRes.W (forLoop w tg body m i ℓ A) K
  | 0, i, ℓ, A, e, h => by
    obtain ⟨h1, h2⟩ := hN ℓ A (by have : i = n := by omega
                                  rw [← this]; exact h)
    unfold forLoop
    rw [if_pos h1]
    exact h2
  | m + 1, i, ℓ, A, e, h => by
    obtain ⟨x, ℓ1, h1, h2, h3⟩ := hs i ℓ A (by omega) h
    unfold forLoop
    rw [h1]
    simp only [h2]
    cases eb : body ℓ1 A with
    | nx ℓ' A' => rw [eb] at h3; exact forW I hs hN m (i + 1) ℓ' A' (by omega) h3
    | ct ℓ' A' => rw [eb] at h3; exact forW I hs hN m (i + 1) ℓ' A' (by omega) h3
    | bk => rw [eb] at h3; exact h3
    | rt => rw [eb] at h3; exact h3
    | exc => rw [eb] at h3; exact h3
    | bad => rw [eb] at h3; exact h3
/-- over a tuple, a text, a written list -/
theorem forP {xs : List AV} {i : Nat} {body : SF} (I : Nat → LSt → AH → Prop) (h0 : I 0 ℓ A)
    (hs : ∀ k x ℓ A, xs[k]? = some x → I k ℓ A → @SRes.W (body (ℓ.set i (some x)) A) ⟨I (k + 1), K.V, K.X, K.N, I (k + 1)⟩)
    (hN : ∀ ℓ A, I xs.length ℓ A → K.N ℓ A) : @SRes.W (forLoop (wPure xs) (gNm i) body (wPure xs).n 0 ℓ A) K :=
  forW I (n := xs.length) (fun k ℓ A hk h => ⟨xs[k], _, List.getElem?_eq_getElem hk, rfl, hs k _ ℓ A (List.getElem?_eq_getElem hk) h⟩) (fun ℓ A h => ⟨rfl, hN ℓ A h⟩) _ _ _ _ (by show 0 + xs.length = _; omega) h0
theorem range_at {lo : Int} {n k : Nat} (h : k < n) : (rangeA lo n)[k]? = some (.int (lo + k)) := by
  unfold rangeA
  rw [List.getElem?_map, List.getElem?_range h]
  rfl
@[simp] theorem range_len {lo : Int} {n : Nat} : (rangeA lo n).length = n := by unfold rangeA; simp
theorem forR {lo : Int} {n i : Nat} {body : SF} (I : Nat → LSt → AH → Prop) (h0 : I 0 ℓ A)
    (hs : ∀ k ℓ A, k < n → I k ℓ A → @SRes.W (body (ℓ.set i (some (.int (lo + k)))) A) ⟨I (k + 1), K.V, K.X, K.N, I (k + 1)⟩)
    (hN : ∀ ℓ A, I n ℓ A → K.N ℓ A) : @SRes.W (forLoop (wPure (rangeA lo n)) (gNm i) body (wPure (rangeA lo n)).n 0 ℓ A) K :=
  forW I (n := n) (fun k ℓ A hk h => ⟨_, _, range_at hk, rfl, hs k ℓ A hk h⟩) (fun ℓ A h => ⟨rfl, hN ℓ A h⟩) _ _ _ _ (by show 0 + (rangeA lo n).length = _; rw [range_len]; omega) h0
/-- over a list that keeps its length -/
theorem forL {r : Nat} {xs : List AV} {i : Nat} {body : SF} (I : Nat → LSt → AH → Prop) (h0 : I 0 ℓ A) (hI : ∀ k ℓ A, I k ℓ A → A.lst? r = some xs)
    (hs : ∀ k x ℓ A, xs[k]? = some x → I k ℓ A → @SRes.W (body (ℓ.set i (some x)) A) ⟨I (k + 1), K.V, K.X, K.N, I (k + 1)⟩)
    (hN : ∀ ℓ A, I xs.length ℓ A → K.N ℓ A) : @SRes.W (forLoop (wLst r xs) (gNm i) body (wLst r xs).n 0 ℓ A) K :=
  forW I (n := xs.length) (fun k ℓ A hk h => ⟨xs[k], _, by show (A.lst? r).bind _ = _; rw [hI k ℓ A h]; exact List.getElem?_eq_getElem hk, rfl, hs k _ ℓ A (List.getElem?_eq_getElem hk) h⟩) (fun ℓ A h => ⟨by show (match A.lst? r with | some ys => ys.length == xs.length | none => false) = true; rw [hI _ ℓ A h]; simp, hN ℓ A h⟩) _ _ _ _ (by show 0 + xs.length = _; omega) h0
/-- I k: at most k turns are left -/
theorem whileW {t : TF} {body : SF} (I : Nat → LSt → AH → Prop)
    (hs : ∀ k ℓ A, I k ℓ A → @Res.W Bool (t ℓ A) ⟨fun b A' => if b then ∃ k', k = k' + 1 ∧ @SRes.W (body ℓ A') ⟨I k', K.V, K.X, K.N, I k'⟩ else K.N ℓ A', fun c fs A' => K.X c fs ℓ A'⟩) :
    ∀ (m k : Nat) (ℓ : LSt) (A : AH), k < m → I k ℓ A → @SRes.W (whileLoop t body m ℓ A) K
  | 0, k, ℓ, A, hk, h => by omega
  | m + 1, k, ℓ, A, hk, h => by
    have h1 := hs k ℓ A h
    unfold whileLoop
    cases et : t ℓ A with
    | bad => rw [et] at h1; exact h1
    | exc c fs A' => rw [et] at h1; exact h1
    | ok b A' =>
      rw [et] at h1
      cases b with
      | false => simpa using h1
      | true =>
        simp only [Wr_ok, if_true] at h1
        obtain ⟨k', rfl, h2⟩ := h1
        simp only
        cases eb : body ℓ A' with
        | nx ℓ' A' => rw [eb] at h2; exact whileW I hs m k' ℓ' A' (by omega) h2
        | ct ℓ' A' => rw [eb] at h2; exact whileW I hs m k' ℓ' A' (by omega) h2
        | bk => rw [eb] at h2; exact h2
        | rt => rw [eb] at h2; exact h2
        | exc => rw [eb] at h2; exact h2
        | bad => rw [eb] at h2; exact h2
theorem sWhile_W {t : TF} {body : SF} (I : Nat → LSt → AH → Prop) (k : Nat) (hk : k < 1000000000) (h0 : I k ℓ A)
    (hs : ∀ k ℓ A, I k ℓ A → @Res.W Bool (t ℓ A) ⟨fun b A' => if b then ∃ k', k = k' + 1 ∧ @SRes.W (body ℓ A') ⟨I k', K.V, K.X, K.N, I k'⟩ else K.N ℓ A', fun c fs A' => K.X c fs ℓ A'⟩) : @SRes.W (sWhile t body ℓ A) K := whileW I hs whileFuel k ℓ A hk h0
/-- list comprehensions -/
theorem lcW {w : Walk} {tg : GF1} {t : TF} {elt : EF} {ℓ0 : LSt} (I : Nat → List AV → AH → Prop) {n : Nat} (hn : n ≤ sizeLine)
    (hs : ∀ k acc A, k < n → acc.length ≤ k → I k acc A → ∃ x ℓ1, w.get k A = some x ∧ tg x ℓ0 A = some ℓ1 ∧ @Res.W Bool (t ℓ1 A) ⟨fun b A => if b then @Res.W AV (elt ℓ1 A) ⟨fun y A => I (k + 1) (acc ++ [y]) A, fun _ _ _ => False⟩ else I (k + 1) acc A, fun _ _ _ => False⟩)
    (hN : ∀ acc A, acc.length ≤ n → I n acc A → w.stop A = true ∧ kl.V acc A) : ∀ (m i : Nat) (acc : List AV) (A : AH), i + m = n → acc.length ≤ i → I i acc A → @Res.W (List AV) (lcLoop w tg t elt ℓ0 m i acc A) kl
  | 0, i, acc, A, e, hl, h => by
    obtain ⟨h1, h2⟩ := hN acc A (by omega) (by have : i = n := by omega
                                               rw [← this]; exact h)
    unfold lcLoop
    rw [if_pos h1]
    exact h2
  | m + 1, i, acc, A, e, hl, h => by
    obtain ⟨x, ℓ1, h1, h2, h3⟩ := hs i acc A (by omega) hl h
    unfold lcLoop
    rw [h1]
    simp only [h2]
    cases et : t ℓ1 A with
    | bad => rw [et] at h3; exact h3.elim
    | exc => rw [et] at h3; exact h3.elim
    | ok b A1 =>
      rw [et] at h3
      simp only [noX, bind_ok]
      cases b with
      | false => exact lcW I hn hs hN m (i + 1) acc A1 (by omega) (by omega) h3
      | true =>
        simp only [Wr_ok, if_true] at h3 ⊢
        cases ee : elt ℓ1 A1 with
        | bad => rw [ee] at h3; exact h3.elim
        | exc => rw [ee] at h3; exact h3.elim
        | ok y A2 =>
          rw [ee] at h3
          simp only [bind_ok]
          rw [if_pos (by omega)]
          exact lcW I hn hs hN m (i + 1) (acc ++ [y]) A2 (by omega) (by simp; omega) h3
end
end Sh

set_option Elab.async false
set_option linter.all false
set_option maxRecDepth 100000
set_option maxHeartbeats 4000000
namespace Sh
open PySem L2 PyProof.Rows
/-! ### expressions as rules of simp -/
section
variable {α β : Type} {ℓ : LSt} {A : AH}
@[simp] theorem szL : sizeLine = 16777216 := sizeLine_eq
@[simp] theorem eVar0 {v : AV} {r : LSt} : eVar 0 (some v :: r) A = .ok v A := (rfl)
@[simp] theorem eVarS {i : Nat} {v : Option AV} {r : LSt} : eVar (i + 1) (v :: r) A = eVar i r A := (rfl)
@[simp] theorem eVar1 {v : AV} {a : Option AV} {r : LSt} : eVar 1 (a :: some v :: r) A = .ok v A := (rfl)
@[simp] theorem eVar2 {v : AV} {a b : Option AV} {r : LSt} : eVar 2 (a :: b :: some v :: r) A = .ok v A := (rfl)
@[simp] theorem eVar3 {v : AV} {a b c : Option AV} {r : LSt} : eVar 3 (a :: b :: c :: some v :: r) A = .ok v A := (rfl)
@[simp] theorem eVar4 {v : AV} {a b c d : Option AV} {r : LSt} : eVar 4 (a :: b :: c :: d :: some v :: r) A = .ok v A := (rfl)
@[simp] theorem eVar5 {v : AV} {a b c d e : Option AV} {r : LSt} : eVar 5 (a :: b :: c :: d :: e :: some v :: r) A = .ok v A := (rfl)
@[simp] theorem eVar6 {v : AV} {a b c d e f : Option AV} {r : LSt} : eVar 6 (a :: b :: c :: d :: e :: f :: some v :: r) A = .ok v A := (rfl)
@[simp] theorem eVar7 {v : AV} {a b c d e f g : Option AV} {r : LSt} : eVar 7 (a :: b :: c :: d :: e :: f :: g :: some v :: r) A = .ok v A := (rfl)
@[simp] theorem eVar8 {v : AV} {a b c d e f g h : Option AV} {r : LSt} : eVar 8 (a :: b :: c :: d :: e :: f :: g :: h :: some v :: r) A = .ok v A := (rfl)
@[simp] theorem eVar9 {v : AV} {a b c d e f g h i : Option AV} {r : LSt} : eVar 9 (a :: b :: c :: d :: e :: f :: g :: h :: i :: some v :: r) A = .ok v A := (rfl)
@[simp] theorem eVar10 {v : AV} {a b c d e f g h i j : Option AV} {r : LSt} : eVar 10 (a :: b :: c :: d :: e :: f :: g :: h :: i :: j :: some v :: r) A = .ok v A := (rfl)
@[simp] theorem eVar11 {v : AV} {a b c d e f g h i j k : Option AV} {r : LSt} : eVar 11 (a :: b :: c :: d :: e :: f :: g :: h :: i :: j :: k :: some v :: r) A = .ok v A := (rfl)
@[simp] theorem eVar12 {v : AV} {a b c d e f g h i j k l : Option AV} {r : LSt} : eVar 12 (a :: b :: c :: d :: e :: f :: g :: h :: i :: j :: k :: l :: some v :: r) A = .ok v A := (rfl)
@[simp] theorem eVar13 {v : AV} {a b c d e f g h i j k l m : Option AV} {r : LSt} : eVar 13 (a :: b :: c :: d :: e :: f :: g :: h :: i :: j :: k :: l :: m :: some v :: r) A = .ok v A := (rfl)
@[simp] theorem opAdd_int {i j : Int} : opAdd (.int i) (.int j) A = .ok (.int (i + j)) A := (rfl)
@[simp] theorem opSub_int {i j : Int} : opSub (.int i) (.int j) A = .ok (.int (i - j)) A := (rfl)
@[simp] theorem opFdiv_int {i j : Int} : opFdiv (.int i) (.int j) A = if 0 < j ∧ j < 1073741824 then .ok (.int (i / j)) A else if j ≠ 0 ∧ Nat.blt j.natAbs 18446744073709551616 = true then .ok (.int (i.fdiv j)) A else .bad := (rfl)
@[simp] theorem opMod_int {i j : Int} : opMod (.int i) (.int j) A = if 0 < j then .ok (.int (i % j)) A else if j ≠ 0 then .ok (.int (i.fmod j)) A else .bad := (rfl)
@[simp] theorem opAnd_int {i j : Int} : opAnd (.int i) (.int j) A = .ok (.int (Builtin.bitAnd i j)) A := (rfl)
@[simp] theorem opOr_int {i j : Int} : opOr (.int i) (.int j) A = .ok (.int (Builtin.bitOr i j)) A := (rfl)
@[simp] theorem opXor_int {i j : Int} : opXor (.int i) (.int j) A = .ok (.int (Builtin.bitXor i j)) A := (rfl)
@[simp] theorem opMul_int {i j : Int} : opMul (.int i) (.int j) A = if small64 i || small64 j then .ok (.int (i * j)) A else .bad := (rfl)
@[simp] theorem cmpI_int {p : Int → Int → Bool} {i j : Int} : cmpI p (.int i) (.int j) A = .ok (.bl (p i j)) A := (rfl)
@[simp] theorem bInt_int {i : Int} : bInt [.int i] A = .ok (.int i) A := (rfl)
@[simp] theorem bLen_tup {xs : List AV} : bLen [.tup xs] A = .ok (.int xs.length) A := (rfl)
@[simp] theorem cEq_int {i j : Int} : cEq (.int i) (.int j) A = .ok (.bl (PyData.eqv (.int i) (.int j))) A := (rfl)
@[simp] theorem cNe_int {i j : Int} : cNe (.int i) (.int j) A = .ok (.bl (!PyData.eqv (.int i) (.int j))) A := (rfl)
@[simp] theorem cIs_non {a : AV} : cIs a .non A = .ok (.bl (isNonB a)) A := (rfl)
@[simp] theorem cIsNot_non {a : AV} : cIsNot a .non A = .ok (.bl (!isNonB a)) A := (rfl)
@[simp] theorem opSl_tup {xs : List AV} {lo hi : Option Int} : opSl (.tup xs) lo hi A = .ok (.tup (cutA xs lo hi)) A := (rfl)
@[simp] theorem asWalk_tup {xs : List AV} : asWalk (.tup xs) A = .ok (wPure xs) A := (rfl)
@[simp] theorem asWalk_fl {xs : List AV} : asWalk (.fl xs) A = .ok (wPure xs) A := (rfl)
@[simp] theorem gNm_ap {i : Nat} {v : AV} : gNm i v ℓ A = some (ℓ.set i (some v)) := (rfl)
@[simp] theorem tYesF_ap : tYesF ℓ A = .ok true A := (rfl)
@[simp] theorem eqv_int {i j : Int} : PyData.eqv (.int i) (.int j) = (i == j) := by unfold PyData.eqv; rfl
@[simp] theorem asWalk_ref {n : Nat} : asWalk (.ref n) A = match A.lst? n with | some xs => .ok (wLst n xs) A | none => .bad := (rfl)
@[simp] theorem asWalk_str {x : Str} : asWalk (.str x) A = .ok (wPure (signsA x)) A := (rfl)
@[simp] theorem sq_ref {n : Nat} : sq? (.ref n) A = A.lst? n := (rfl)
@[simp] theorem opIx_tup {xs : List AV} {i : Int} : opIx (.tup xs) (.int i) A = atA xs i A := (rfl)
@[simp] theorem opIx_fl {xs : List AV} {i : Int} : opIx (.fl xs) (.int i) A = atA xs i A := (rfl)
theorem opIx_lst {n : Nat} {xs : List AV} {i : Int} (h : A.lst? n = some xs) : opIx (.ref n) (.int i) A = atA xs i A := by
  simp only [opIx, h]
@[simp] theorem opIx_gdi {n : Str} {kvs : List (Key × AV)} {i : Int} : opIx (.gd n kvs) (.int i) A = match valA kvs (.inl i) with | some v => .ok v A | none => .bad := (rfl)
@[simp] theorem opIx_gds {n : Str} {kvs : List (Key × AV)} {z : Str} : opIx (.gd n kvs) (.str z) A = match valA kvs (.inr z) with | some v => .ok v A | none => .bad := (rfl)
@[simp] theorem atA_0 {x : AV} {xs : List AV} : atA (x :: xs) 0 A = .ok x A := by unfold atA L2.atI L2.ixN; simp
@[simp] theorem atA_1 {x y : AV} {xs : List AV} : atA (x :: y :: xs) 1 A = .ok y A := by
  unfold atA L2.atI L2.ixN
  have : (1 : Int) < (xs.length : Int) + 1 + 1 := by omega
  simp [this]
@[simp] theorem atA_2 {x y z : AV} {xs : List AV} : atA (x :: y :: z :: xs) 2 A = .ok z A := by
  unfold atA L2.atI L2.ixN
  have : (2 : Int) < (xs.length : Int) + 1 + 1 + 1 := by omega
  simp [this]
theorem atI_get {α : Type} {xs : List α} {i : Int} {v : α} (h : 0 ≤ i) (e : xs[i.toNat]? = some v) : atI xs i = some v := by
  have hk : i.toNat < xs.length := by
    by_cases hk : i.toNat < xs.length
    · exact hk
    · rw [List.getElem?_eq_none (by omega)] at e; cases e
  unfold atI ixN
  rw [if_pos h, if_pos (by omega)]
  exact e
theorem atA_get {xs : List AV} {i : Int} {v : AV} {A : AH} (h : 0 ≤ i) (e : xs[i.toNat]? = some v) : atA xs i A = .ok v A := by
  unfold atA
  rw [atI_get h e]
/-- at an index in bounds, of a kind that all have -/
theorem atA_W {xs : List AV} {i : Int} {kv : Kr AV} (h : 0 ≤ i) (h2 : i < xs.length) (hV : ∀ (hk : i.toNat < xs.length), kv.V xs[i.toNat] A) : @Res.W AV (atA xs i A) kv := by
  have hk : i.toNat < xs.length := by omega
  rw [atA_get h (List.getElem?_eq_getElem hk)]
  exact hV hk
theorem small64_of {i : Int} (h : -(2 ^ 64) < i) (h2 : i < 2 ^ 64) : small64 i = true := by
  unfold small64
  exact decide_eq_true ⟨h, h2⟩
theorem small64_n {n : Int} (h : Nat.blt n.natAbs 18446744073709551616 = true) : small64 n = true := by
  have : n.natAbs < 18446744073709551616 := Nat.le_of_ble_eq_true h
  exact small64_of (by omega) (by omega)
@[simp] theorem w62_iff {i : Int} : w62 i = true ↔ -4611686018427387904 ≤ i ∧ i < 4611686018427387904 := by
  constructor
  · intro h
    have := w62_ok h
    omega
  · intro h
    exact w62_of (by omega)
@[simp] theorem uNeg_int {i : Int} : uNeg (.int i) A = .ok (.int (-i)) A := (rfl)
theorem lst_app {T : AH} {n : Nat} {xs : List AV} (h : AH.lst? T n = some xs) (U : AH) : AH.lst? (T ++ U) n = some xs := by
  unfold AH.lst? at *
  have hn : n < T.length := by
    by_cases hn : n < T.length
    · exact hn
    · rw [List.getElem?_eq_none (by omega)] at h; cases h
  rw [List.getElem?_append_left hn]
  exact h
@[simp] theorem lst_tail {T l : AH} {k : Nat} : AH.lst? (T ++ l) (T.length + k) = AH.lst? l k := by
  unfold AH.lst?
  rw [List.getElem?_append_right (by omega)]
  simp
@[simp] theorem lst_tail0 {T l : AH} : AH.lst? (T ++ l) T.length = AH.lst? l 0 := lst_tail (k := 0)
@[simp] theorem lst_c0 {xs : List AV} {l : AH} : AH.lst? (.lst xs :: l) 0 = some xs := (rfl)
@[simp] theorem lst_cS {o : AO} {l : AH} {k : Nat} : AH.lst? (o :: l) (k + 1) = AH.lst? l k := (rfl)
@[simp] theorem set_tail {T l : AH} {k : Nat} {o : AO} : (T ++ l).set (T.length + k) o = T ++ l.set k o := by
  rw [List.set_append_right _ _ (by omega)]
  simp
@[simp] theorem set_tail0 {T l : AH} {o : AO} : (T ++ l).set T.length o = T ++ l.set 0 o := set_tail (k := 0)
@[simp] theorem bLen_ref {n : Nat} : bLen [.ref n] A = match A.lst? n with
    | some xs => .ok (.int xs.length) A
    | none => match A.dct? n with | some kvs => .ok (.int kvs.length) A | none => .bad := rfl
@[simp] theorem bTuple_tup {xs : List AV} : bTuple [.tup xs] A = .ok (.tup xs) A := (rfl)
@[simp] theorem bTuple_ref {n : Nat} : bTuple [.ref n] A = match A.lst? n with | some xs => .ok (.tup xs) A | none => .bad := (rfl)
@[simp] theorem bList_tup {xs : List AV} : bList [.tup xs] A = .ok (.ref A.length) (A ++ [.lst xs]) := (rfl)
@[simp] theorem bList_ref {n : Nat} : bList [.ref n] A = match A.lst? n with | some xs => .ok (.ref A.length) (A ++ [.lst xs]) | none => .bad := (rfl)
@[simp] theorem opSl_ref {n : Nat} {lo hi : Option Int} : opSl (.ref n) lo hi A = match A.lst? n with | some xs => .ok (.ref A.length) (A ++ [.lst (cutA xs lo hi)]) | none => .bad := (rfl)
@[simp] theorem rcv_ref {n : Nat} : rcv .list (.ref n) A = (A.lst? n).isSome := (rfl)
@[simp] theorem mAppend_ref {n : Nat} {v : AV} : mAppend (.ref n) [v] A = match A.lst? n with | some xs => if xs.length < sizeLine then .ok .non (A.set n (.lst (xs ++ [v]))) else .bad | none => .bad := (rfl)
@[simp] theorem opAdd_tup {xs ys : List AV} : opAdd (.tup xs) (.tup ys) A = if xs.length + ys.length ≤ sizeLine then .ok (.tup (xs ++ ys)) A else .bad := (rfl)
@[simp] theorem opAdd_ref {m n : Nat} : opAdd (.ref m) (.ref n) A = match A.lst? m, A.lst? n with
    | some xs, some ys => if xs.length + ys.length ≤ sizeLine then .ok (.ref A.length) (A ++ [.lst (xs ++ ys)]) else .bad
    | _, _ => .bad := rfl
/-! ### kinds -/
@[simp] theorem isi1 {a : AV} {n : String} : bIsi [a, .ty n] A = match btOf a A, BT.of n with | some t, some c => .ok (.bl (t.sub c)) A | _, _ => .bad := (rfl)
@[simp] theorem isi2 {a : AV} {cs : List AV} : bIsi [a, .tup cs] A = match btOf a A, tyNames cs with | some t, some ts => .ok (.bl (ts.any fun c => t.sub c)) A | _, _ => .bad := (rfl)
@[simp] theorem bt_non : btOf .non A = some .non := (rfl)
@[simp] theorem bt_bl {b : Bool} : btOf (.bl b) A = some .bl := (rfl)
@[simp] theorem bt_int {b : Int} : btOf (.int b) A = some .int := (rfl)
@[simp] theorem bt_str {b : Str} : btOf (.str b) A = some .str := (rfl)
@[simp] theorem bt_tup {b : List AV} : btOf (.tup b) A = some .tup := (rfl)
theorem bt_lst {n : Nat} {xs : List AV} (h : A.lst? n = some xs) : btOf (.ref n) A = some .lst := by
  have e := lst_at h
  show (match A[n]? with | some (.lst _) => some BT.lst | some (.dct _) => some BT.dct | _ => none) = _
  rw [e]
@[simp] theorem of_int : BT.of "int" = some .int := (rfl)
@[simp] theorem of_bool : BT.of "bool" = some .bl := (rfl)
@[simp] theorem of_str : BT.of "str" = some .str := (rfl)
@[simp] theorem of_list : BT.of "list" = some .lst := (rfl)
@[simp] theorem of_tuple : BT.of "tuple" = some .tup := (rfl)
@[simp] theorem of_dict : BT.of "dict" = some .dct := (rfl)
@[simp] theorem names_lt : tyNames [.ty "list", .ty "tuple"] = some [.lst, .tup] := (rfl)
@[simp] theorem cmp_lt {i j : Int} : cmpI (fun i j => decide (i < j)) (.int i) (.int j) A = .ok (.bl (decide (i < j))) A := (rfl)
end
/-! ### data -/
theorem atomD_plain {v : AV} {d : PyData} (h : atomD v = some d) : d.plain = true := by
  cases v <;> first | (cases h; done) | (cases h; rfl)
theorem datsBy_plain {f : AV → Option PyData} (hf : ∀ v d, f v = some d → d.plain = true) : ∀ {xs : List AV} {ds : List PyData}, datsBy f xs = some ds → PyData.plainAll ds = true
  | [], ds, h => by cases h; rfl
  | a :: as, ds, h => by
    unfold datsBy at h
    split at h
    · rename_i d ds' e1 e2
      cases h
      show (d.plain && PyData.plainAll ds') = true
      rw [hf _ _ e1, datsBy_plain hf e2]
      rfl
    · cases h
theorem dat_plain {A : AH} : ∀ (n : Nat) (v : AV) (d : PyData), dat A n v = some d → d.plain = true
  | 0, v, d, h => atomD_plain h
  | n + 1, v, d, h => by
    unfold dat at h
    split at h
    · rename_i xs
      cases e : datsBy (dat A n) xs with
      | none => rw [e] at h; cases h
      | some ds => rw [e] at h; cases h; exact datsBy_plain (dat_plain n) e
    · split at h
      · rename_i xs _
        cases e : datsBy (dat A n) xs with
        | none => rw [e] at h; cases h
        | some ds => rw [e] at h; cases h; exact datsBy_plain (dat_plain n) e
      · exact atomD_plain h
theorem cEq_self {A : AH} {a : AV} {d : PyData} (h : dat A depthD a = some d) : cEq a a A = .ok (.bl true) A := by
  unfold cEq
  rw [h]
  show Res.ok (AV.bl (PyData.eqv d d)) A = _
  rw [PySem.SeqAt.eqv_refl_plain d (dat_plain _ _ _ h)]
theorem cNe_self {A : AH} {a : AV} {d : PyData} (h : dat A depthD a = some d) : cNe a a A = .ok (.bl false) A := by
  unfold cNe
  rw [h]
  show Res.ok (AV.bl (!PyData.eqv d d)) A = _
  rw [PySem.SeqAt.eqv_refl_plain d (dat_plain _ _ _ h)]
  rfl
/-! ### the bag of a law -/
structure Bag where
  ns : List Int
  at_ : Int
  rest : Int
  seed : Int
  count : Int
  ok : 0 ≤ at_
def bagK (g : Bag) : List (Key × AV) := [(.inr "cells", .ref 0), (.inr "at", .int g.at_), (.inr "rest", .int g.rest), (.inr "seed", .int g.seed), (.inr "count", .int g.count)]
def hp (g : Bag) (T : AH) : AH := .lst (g.ns.map .int) :: .dct (bagK g) :: T
section
variable {g : Bag} {T : AH}
@[simp] theorem hp_len : (hp g T).length = T.length + 2 := (rfl)
@[simp] theorem hp_app {U : AH} : hp g T ++ U = hp g (T ++ U) := (rfl)
@[simp] theorem hp_lst {k : Nat} : AH.lst? (hp g T) (k + 2) = AH.lst? T k := (rfl)
@[simp] theorem hp_set {k : Nat} {o : AO} : List.set (hp g T) (k + 2) o = hp g (T.set k o) := (rfl)
def pickS : SF := (sSeq (sSub (eOp opAdd (eOp opIx (eVar 0) (eC (.str "count"))) (eC (.int 1))) (eVar 0) (eC (.str "count")))
  (sSeq (sIf (tOfE (eOp (cmpI fun i j => decide (j < i)) (eOp opIx (eVar 0) (eC (.str "rest"))) (eC (.int 0))))
  (sSeq (sSet 3 (eOp opMod (eCB bInt (aCons (eOp opIx (eVar 0) (eC (.str "rest"))) aNil)) (eVar 1)))
  (sSeq (sSub (eOp opFdiv (eOp opIx (eVar 0) (eC (.str "rest"))) (eVar 1)) (eVar 0) (eC (.str "rest")))
  (sRet (eVar 3))))
  sNext)
  (sSeq (sIf (tOfE (eOp (cmpI fun i j => decide (i < j)) (eOp opIx (eVar 0) (eC (.str "at"))) (eCB bLen (aCons (eOp opIx (eVar 0) (eC (.str "cells"))) aNil))))
  (sSeq (sSet 4 (eOp opIx (eOp opIx (eVar 0) (eC (.str "cells"))) (eOp opIx (eVar 0) (eC (.str "at")))))
  (sSeq (sSub (eOp opAdd (eOp opIx (eVar 0) (eC (.str "at"))) (eC (.int 1))) (eVar 0) (eC (.str "at")))
  (sSeq (sIf (tOfE (eOp (cmpI fun i j => decide (j ≤ i)) (eVar 4) (eC (.int 1000000000000000000))))
  (sSeq (sSub (eOp opFdiv (eVar 4) (eVar 1)) (eVar 0) (eC (.str "rest")))
  (sRet (eOp opMod (eCB bInt (aCons (eVar 4) aNil)) (eVar 1))))
  sNext)
  (sSub (eOp opMod (eCB bInt (aCons (eOp opAdd (eOp opAdd (eOp opIx (eVar 0) (eC (.str "seed"))) (eOp opMul (eVar 4) (eC (.int 7919)))) (eC (.int 104729))) aNil)) (eC (.int 2147483647))) (eVar 0) (eC (.str "seed"))))))
  sNext)
  (sSeq (sSub (eOp opMod (eCB bInt (aCons (eOp opAdd (eOp opAdd (eOp opMul (eOp opIx (eVar 0) (eC (.str "seed"))) (eC (.int 48271))) (eOp opMul (eOp opIx (eVar 0) (eC (.str "count"))) (eC (.int 69621)))) (eC (.int 11))) aNil)) (eC (.int 2147483647))) (eVar 0) (eC (.str "seed")))
  (sSeq (sSet 2 (eOp opMod (eCB bInt (aCons (eOp opAdd (eOp opMul (eOp opIx (eVar 0) (eC (.str "seed"))) (eC (.int 16807))) (eOp opMul (eOp opIx (eVar 0) (eC (.str "count"))) (eC (.int 40014)))) aNil)) (eC (.int 2147483629))))
  (sRet (eOp opMod (eCB bInt (aCons (eOp opFdiv (eVar 2) (eC (.int 97))) aNil)) (eVar 1))))))))
def fnPick : Fn := runFn pickS 5
def choiceS : SF := (sRet (eOp opIx (eVar 1) (eCall ⟨fnPick, 2, [], false⟩ (aCons (eVar 0) (aCons (eCB bLen (aCons (eVar 1) aNil)) aNil)))))
def fnChoice : Fn := runFn choiceS 2
@[simp] theorem ix_cells : opIx (.ref 1) (.str "cells") (hp g T) = .ok (.ref 0) (hp g T) := (rfl)
@[simp] theorem ix_at : opIx (.ref 1) (.str "at") (hp g T) = .ok (.int g.at_) (hp g T) := (rfl)
@[simp] theorem ix_rest : opIx (.ref 1) (.str "rest") (hp g T) = .ok (.int g.rest) (hp g T) := (rfl)
@[simp] theorem ix_seed : opIx (.ref 1) (.str "seed") (hp g T) = .ok (.int g.seed) (hp g T) := (rfl)
@[simp] theorem ix_count : opIx (.ref 1) (.str "count") (hp g T) = .ok (.int g.count) (hp g T) := (rfl)
theorem set_at {v : Int} {ℓ : LSt} {K : Ks} (h : 0 ≤ v) : @SRes.W (putS (.ref 1) (.str "at") (.int v) ℓ (hp g T)) K = K.N ℓ (hp { g with at_ := v, ok := h } T) := put_W (by rfl)
@[simp] theorem set_rest {v : Int} {ℓ : LSt} {K : Ks} : @SRes.W (putS (.ref 1) (.str "rest") (.int v) ℓ (hp g T)) K = K.N ℓ (hp { g with rest := v } T) := put_W (by rfl)
@[simp] theorem set_seed {v : Int} {ℓ : LSt} {K : Ks} : @SRes.W (putS (.ref 1) (.str "seed") (.int v) ℓ (hp g T)) K = K.N ℓ (hp { g with seed := v } T) := put_W (by rfl)
@[simp] theorem set_count {v : Int} {ℓ : LSt} {K : Ks} : @SRes.W (putS (.ref 1) (.str "count") (.int v) ℓ (hp g T)) K = K.N ℓ (hp { g with count := v } T) := put_W (by rfl)
@[simp] theorem lst_cells : AH.lst? (hp g T) 0 = some (g.ns.map .int) := (rfl)
theorem ix_cell {i : Int} (h : 0 ≤ i) (h2 : i < g.ns.length) : ∃ c, opIx (.ref 0) (.int i) (hp g T) = .ok (.int c) (hp g T) := by
  obtain ⟨k, rfl⟩ : ∃ k : Nat, i = k := ⟨i.toNat, by omega⟩
  have hk : k < g.ns.length := by omega
  refine ⟨g.ns[k], ?_⟩
  exact atA_get h (by simp [hk])
theorem pick_W {m : Int} (h : 0 < m) (h2 : m < 1073741824) {kv : Kr AV} (k : ∀ d g', 0 ≤ d → d < m → kv.V (.int d) (hp g' T)) : @Res.W AV (fnPick [.ref 1, .int m] (hp g T)) kv := by
  have m1 : small64 48271 = true := by decide
  have m2 : small64 69621 = true := by decide
  have m3 : small64 16807 = true := by decide
  have m4 : small64 40014 = true := by decide
  have m5 : small64 7919 = true := by decide
  have fin : ∀ (x : Int) (g' : Bag), kv.V (.int (x % m)) (hp g' T) := fun x g' => k _ _ (Int.emod_nonneg _ (by omega)) (Int.emod_lt_of_pos _ h)
  apply run_W
  by_cases r : 0 < g.rest
  · simp [pickS, r, h, h2, fin]
  · by_cases a : g.at_ < g.ns.length
    · obtain ⟨c, e⟩ := ix_cell (g := { g with count := g.count + 1 }) (T := T) g.ok a
      have hat : 0 ≤ g.at_ + 1 := by have := g.ok; omega
      have e2 := fun (g' : Bag) (ℓ : LSt) (K : Ks) => set_at (g := g') (T := T) (ℓ := ℓ) (K := K) hat
      by_cases z : 1000000000000000000 ≤ c
      · simp [pickS, r, h, h2, a, e, e2, z, fin]
      · simp [pickS, r, h, h2, a, e, e2, z, fin, m1, m2, m3, m4, m5]
    · simp [pickS, r, h, h2, a, fin, m1, m2, m3, m4, m5]
theorem choice_W {n : Nat} {xs : List AV} (e : ∀ g', AH.lst? (hp g' T) n = some xs) (h : 0 < xs.length) (h2 : xs.length < 1000000000) {kv : Kr AV} (k : ∀ v g', v ∈ xs → kv.V v (hp g' T)) : @Res.W AV (fnChoice [.ref 1, .ref n] (hp g T)) kv := by
  apply run_W
  simp [choiceS, e]
  refine pick_W (by omega) (by omega) fun d g' d1 d2 => ?_
  simp only [opIx_lst (e g')]
  exact atA_W d1 d2 fun hk => k _ _ (List.getElem_mem hk)
end
end Sh

set_option Elab.async false
set_option linter.all false
set_option maxRecDepth 100000
set_option maxHeartbeats 4000000
namespace Sh
open PySem L2 PyProof.Rows
/-! ### short loops, turn by turn -/
def forLs (tg : GF1) (body : SF) : List AV → LSt → AH → SRes
  | [], ℓ, A => .nx ℓ A
  | x :: xs, ℓ, A => match tg x ℓ A with
    | none => .bad
    | some ℓ1 => match body ℓ1 A with
      | .nx ℓ' A' => forLs tg body xs ℓ' A'
      | .ct ℓ' A' => forLs tg body xs ℓ' A'
      | .bk ℓ' A' => .nx ℓ' A'
      | .rt v A' => .rt v A'
      | .exc c fs ℓ' A' => .exc c fs ℓ' A'
      | .bad => .bad
section
variable {ℓ : LSt} {A : AH} {K : Ks}
theorem forLs_eq {tg : GF1} {body : SF} {xs : List AV} : ∀ (m i : Nat) (ℓ : LSt) (A : AH), i + m = xs.length → forLoop (wPure xs) tg body m i ℓ A = forLs tg body (xs.drop i) ℓ A
  | 0, i, ℓ, A, h => by
    rw [List.drop_eq_nil_of_le (by omega)]
    rfl
  | m + 1, i, ℓ, A, h => by
    have hi : i < xs.length := by omega
    rw [List.drop_eq_getElem_cons hi]
    unfold forLoop forLs
    have e : (wPure xs).get i A = some xs[i] := List.getElem?_eq_getElem hi
    rw [e]
    simp only
    cases tg xs[i] ℓ A with
    | none => rfl
    | some ℓ1 =>
      simp only
      cases body ℓ1 A with
      | nx ℓ' A' => exact forLs_eq m (i + 1) ℓ' A' (by omega)
      | ct ℓ' A' => exact forLs_eq m (i + 1) ℓ' A' (by omega)
      | _ => rfl
theorem forLs_of {tg : GF1} {body : SF} {xs : List AV} : forLoop (wPure xs) tg body (wPure xs).n 0 ℓ A = forLs tg body xs ℓ A := forLs_eq _ 0 ℓ A (by show 0 + xs.length = _; omega)
@[simp ↓] theorem forLs_nil {tg : GF1} {body : SF} : @SRes.W (forLs tg body [] ℓ A) K = K.N ℓ A := (rfl)
@[simp ↓] theorem forLs_cons {i : Nat} {body : SF} {x : AV} {xs : List AV} : @SRes.W (forLs (gNm i) body (x :: xs) ℓ A) K = @SRes.W (body (ℓ.set i (some x)) A) ⟨fun ℓ A => @SRes.W (forLs (gNm i) body xs ℓ A) K, K.V, K.X, K.N, fun ℓ A => @SRes.W (forLs (gNm i) body xs ℓ A) K⟩ := by
  show @SRes.W (match body (ℓ.set i (some x)) A with
      | .nx ℓ' A' => forLs (gNm i) body xs ℓ' A'
      | .ct ℓ' A' => forLs (gNm i) body xs ℓ' A'
      | .bk ℓ' A' => .nx ℓ' A'
      | .rt v A' => .rt v A'
      | .exc c fs ℓ' A' => .exc c fs ℓ' A'
      | .bad => .bad) K = _
  cases body (ℓ.set i (some x)) A <;> rfl
@[simp] theorem rangeA0 {lo : Int} : rangeA lo 0 = [] := (rfl)
@[simp] theorem rangeAS {lo : Int} {n : Nat} : rangeA lo (n + 1) = .int lo :: rangeA (lo + 1) n := by
  unfold rangeA
  rw [List.range_succ_eq_map, List.map_cons, List.map_map]
  simp only [Int.natCast_zero, Int.add_zero, List.cons.injEq, true_and]
  apply List.map_congr_left
  intro a _
  simp
  omega
theorem cEq_str {a b : Str} : cEq (.str a) (.str b) A = .ok (.bl (decide (a = b))) A := by
  show Res.ok (AV.bl (PyData.eqv (.str a) (.str b))) A = _
  have e : PyData.eqv (.str a) (.str b) = decide (a = b) := by
    unfold PyData.eqv
    rw [Bool.eq_iff_iff]
    simp
  rw [e]
/-! ### data of ints -/
theorem dats_ints {f : AV → Option PyData} (hf : ∀ i, f (.int i) = some (.int i)) : ∀ (bs : List Int), datsBy f (bs.map .int) = some (bs.map .int)
  | [] => rfl
  | b :: bs => by
    show (match f (.int b), datsBy f (bs.map .int) with | some d, some ds => some (d :: ds) | _, _ => none) = _
    rw [hf, dats_ints hf bs]
    rfl
theorem dat_int {n : Nat} {i : Int} : dat A n (.int i) = some (.int i) := by cases n <;> rfl
theorem dat_bl {n : Nat} {i : Bool} : dat A n (.bl i) = some (.bool i) := by cases n <;> rfl
theorem dat_non {n : Nat} : dat A n .non = some .none := by cases n <;> rfl
theorem dat_str {n : Nat} {i : Str} : dat A n (.str i) = some (.str i) := by cases n <;> rfl
theorem dat_ints {n k : Nat} {bs : List Int} (h : A.lst? k = some (bs.map .int)) : dat A (n + 1) (.ref k) = some (.list (bs.map .int)) := by
  show (match sq? (.ref k) A with | some xs => (datsBy (dat A n) xs).map PyData.list | none => atomD (.ref k)) = _
  rw [sq_ref, h]
  simp only
  rw [dats_ints (fun i => dat_int)]
  rfl
/-- things: what is no reference -/
def Thing : AV → Prop
  | .non => True | .bl _ => True | .int _ => True | .str _ => True | .tup xs => ∃ bs : List Int, xs = bs.map .int | _ => False
theorem Thing.dat {v : AV} (h : Thing v) (n : Nat) : ∃ d, dat A (n + 1) v = some d := by
  cases v with
  | non => exact ⟨_, dat_non⟩
  | bl => exact ⟨_, dat_bl⟩
  | int => exact ⟨_, dat_int⟩
  | str => exact ⟨_, dat_str⟩
  | tup xs =>
    obtain ⟨bs, rfl⟩ := h
    refine ⟨.tuple (bs.map .int), ?_⟩
    show (datsBy (Sh.dat A n) (bs.map .int)).map PyData.tuple = _
    rw [dats_ints (fun i => dat_int)]
    rfl
  | _ => exact h.elim
theorem Thing.eq {v : AV} (h : Thing v) : cEq v v A = .ok (.bl true) A := by
  obtain ⟨d, e⟩ := h.dat (A := A) 11
  exact cEq_self e
def isI : AV → Bool
  | .int _ => true
  | _ => false
def isBlB : AV → Bool
  | .bl _ => true
  | _ => false
theorem Thing.isInt {v : AV} (h : Thing v) : bIsi [v, .ty "int"] A = .ok (.bl (isI v || isBlB v)) A := by
  cases v <;> first | rfl | exact h.elim
theorem Thing.isBool {v : AV} (h : Thing v) : bIsi [v, .ty "bool"] A = .ok (.bl (isBlB v)) A := by
  cases v <;> first | rfl | exact h.elim
end
end Sh
namespace Sh
open PySem L2 PyProof.Rows
section
variable {ℓ : LSt} {A : AH} {K : Ks} {kw : Kr Walk}
def revR (a : AV) (A : AH) : Res Walk := match a with
  | .ref n => match A.lst? n with | some xs => .ok (wRev n xs.length) A | none => .bad
  | .tup xs => .ok (wRevT xs) A
  | _ => .bad
@[simp ↓] theorem iRevF_W {f : EF} : @Res.W Walk (iRevF f ℓ A) kw = @Res.W AV (f ℓ A) ⟨fun a A => @Res.W Walk (revR a A) kw, kw.X⟩ := by
  unfold iRevF
  rw [bind_W]
  cases f ℓ A with
  | ok a A => cases a <;> rfl
  | _ => rfl
theorem revR_lst {n : Nat} {xs : List AV} (h : A.lst? n = some xs) : revR (.ref n) A = .ok (wRev n xs.length) A := by
  unfold revR
  simp [h]
theorem forRv {r n : Nat} {xs : List AV} {i : Nat} {body : SF} (I : Nat → LSt → AH → Prop) (hn : n = xs.length) (h0 : I 0 ℓ A) (hI : ∀ k ℓ A, I k ℓ A → A.lst? r = some xs)
    (hs : ∀ k x ℓ A, k < n → xs[n - 1 - k]? = some x → I k ℓ A → @SRes.W (body (ℓ.set i (some x)) A) ⟨I (k + 1), K.V, K.X, K.N, I (k + 1)⟩)
    (hN : ∀ ℓ A, I n ℓ A → K.N ℓ A) : @SRes.W (forLoop (wRev r n) (gNm i) body (wRev r n).n 0 ℓ A) K := by
  subst hn
  exact forW I (n := xs.length) (fun k ℓ A hk h => ⟨xs[xs.length - 1 - k], _, by show (A.lst? r).bind _ = _; rw [hI k ℓ A h]; exact List.getElem?_eq_getElem (by omega), rfl, hs k _ ℓ A hk (List.getElem?_eq_getElem (by omega)) h⟩) (fun ℓ A h => ⟨rfl, hN ℓ A h⟩) _ _ _ _ (by show 0 + xs.length = _; omega) h0

/-! ### the bag is made -/
def bagS (s : Int) : SF := (sRet (eDct [((eC (.str "cells")), (eLc (iVal (eVar 0)) (gNm 1) tYesF (eCB bInt (aCons (eVar 1) aNil)) [1])), ((eC (.str "at")), (eC (.int 0))), ((eC (.str "rest")), (eC (.int 0))), ((eC (.str "seed")), (eC (.int s))), ((eC (.str "count")), (eC (.int 0)))]))
def fnBag (s : Int) : Fn := runFn (bagS s) 2
theorem bagLc {ns : List Int} : ∀ (m i : Nat) (acc : List AV) (ℓ0 : LSt) (a : Option AV) (b : Option AV), ℓ0 = [a, b] → i + m = ns.length → acc.length + m ≤ sizeLine → lcLoop (wPure (ns.map AV.int)) (gNm 1) tYesF (eCB bInt (aCons (eVar 1) aNil)) ℓ0 m i acc [] = .ok (acc ++ (ns.drop i).map AV.int) []
  | 0, i, acc, ℓ0, a, b, h, hi, hl => by
    rw [List.drop_eq_nil_of_le (by omega), List.map_nil, List.append_nil]
    rfl
  | m + 1, i, acc, ℓ0, a, b, h, hi, hl => by
    have hx : i < ns.length := by omega
    unfold lcLoop
    have e0 : (wPure (ns.map AV.int)).get i [] = some (.int ns[i]) := by
      show (ns.map AV.int)[i]? = _
      simp [hx]
    rw [e0]
    subst h
    have e1 : eCB bInt (aCons (eVar 1) aNil) [a, some (.int ns[i])] [] = .ok (.int ns[i]) [] := rfl
    simp only [gNm, List.set_cons_succ, List.set_cons_zero, tYesF, noX, bind_ok, if_true, e1]
    have e5 := bagLc (ns := ns) m (i + 1) (acc ++ [AV.int (ns[i]'hx)]) [a, b] a b rfl (by omega) (by simp at hl ⊢; omega)
    rw [if_pos (by omega), e5, List.drop_eq_getElem_cons hx, List.map_cons, List.append_assoc]
    rfl
theorem bag_eq {ns : List Int} {s : Int} (hn : ns.length ≤ 1000) : fnBag s [.fl (ns.map .int)] [] = .ok (.ref 1) (hp ⟨ns, 0, 0, s, 0, by decide⟩ []) := by
  have e : eLc (iVal (eVar 0)) (gNm 1) tYesF (eCB bInt (aCons (eVar 1) aNil)) [1] [some (.fl (ns.map .int)), none] [] = .ok (.ref 0) [.lst (ns.map .int)] := by
    unfold eLc
    show (lcLoop (wPure (ns.map AV.int)) (gNm 1) tYesF (eCB bInt (aCons (eVar 1) aNil)) [some (.fl (ns.map .int)), none] (wPure (ns.map AV.int)).n 0 [] []).bind _ = _
    have hz : sizeLine = 16777216 := sizeLine_eq
    rw [bagLc (ns := ns) (wPure (ns.map AV.int)).n 0 [] _ _ _ rfl (by show 0 + (ns.map AV.int).length = _; simp) (by show 0 + (ns.map AV.int).length ≤ _; simp; omega)]
    rfl
  show (match bagS s [some (.fl (ns.map .int)), none] [] with | .nx _ A' => Res.ok AV.non A' | .rt v A' => .ok v A' | .exc c fs _ A' => .exc c fs A' | _ => .bad) = _
  have e2 : bagS s [some (.fl (ns.map .int)), none] [] = .rt (.ref 1) (hp ⟨ns, 0, 0, s, 0, by decide⟩ []) := by
    unfold bagS
    show ((eDct _ _ _).toS _ _) = _
    unfold eDct
    show (((pairsF _ _ _).bind _).toS _ _) = _
    have e3 : pairsF [((eC (.str "cells")), (eLc (iVal (eVar 0)) (gNm 1) tYesF (eCB bInt (aCons (eVar 1) aNil)) [1])), ((eC (.str "at")), (eC (.int 0))), ((eC (.str "rest")), (eC (.int 0))), ((eC (.str "seed")), (eC (.int s))), ((eC (.str "count")), (eC (.int 0)))] [some (.fl (ns.map .int)), none] [] = .ok [(.inr "cells", .ref 0), (.inr "at", .int 0), (.inr "rest", .int 0), (.inr "seed", .int s), (.inr "count", .int 0)] [.lst (ns.map .int)] := by
      unfold pairsF
      simp only [eC, bind_ok, e]
      rfl
    rw [e3]
    rfl
  rw [e2]
theorem bag_W {ns : List Int} {s : Int} {kv : Kr AV} (hn : ns.length ≤ 1000) (k : ∀ g, kv.V (.ref 1) (hp g [])) : @Res.W AV (fnBag s [.fl (ns.map .int)] []) kv := by
  rw [bag_eq hn]
  exact k _
end
end Sh

set_option Elab.async false
set_option linter.all false
set_option maxRecDepth 100000
set_option maxHeartbeats 4000000
namespace Sh
open PySem L2 PyProof.Rows
/-! ### texts as lists of codes -/
def S (l : List Nat) : Str := ⟨l.toArray⟩
section
variable {A : AH} {l m : List Nat} {ℓ : LSt} {kv : Kr AV}
theorem S_cps : (S l).cps.toList = l := by unfold S; simp
theorem S_len : (S l).length = l.length := by unfold S Str.length; simp
theorem S_eta (x : Str) : x = S x.cps.toList := by unfold S; simp
theorem S_app : S l ++ S m = S (l ++ m) := by
  show Str.append (S l) (S m) = _
  unfold Str.append S
  simp
theorem S_inj : S l = S m ↔ l = m := by
  constructor
  · intro h
    have := congrArg (fun x : Str => x.cps.toList) h
    simpa [S_cps] using this
  · rintro rfl; rfl
theorem add_S : opAdd (.str (S l)) (.str (S m)) A = if l.length + m.length ≤ 16777216 then .ok (.str (S (l ++ m))) A else .bad := by
  show (if (S l).length + (S m).length ≤ sizeLine then _ else _) = _
  rw [S_len, S_len, S_app, szL]
theorem eq_S : cEq (.str (S l)) (.str (S m)) A = .ok (.bl (decide (l = m))) A := by
  rw [cEq_str]
  simp [S_inj]
theorem ne_S : cNe (.str (S l)) (.str (S m)) A = .ok (.bl (!decide (l = m))) A := by
  have : PyData.eqv (.str (S l)) (.str (S m)) = decide (l = m) := by
    unfold PyData.eqv
    rw [Bool.eq_iff_iff]
    simp [S_inj]
  show Res.ok (AV.bl (!PyData.eqv (.str (S l)) (.str (S m)))) A = _
  rw [this]
theorem len_S (h : l.length ≤ 16777216) : bLen [.str (S l)] A = .ok (.int l.length) A := by
  show (if (S l).length ≤ sizeLine then _ else _) = _
  rw [S_len, szL, if_pos h]
theorem ix_S {i : Int} {c : Nat} (h : l.length ≤ 16777216) (h0 : 0 ≤ i) (hc : l[i.toNat]? = some c) : opIx (.str (S l)) (.int i) A = .ok (.str (S [c])) A := by
  show (if (S l).length ≤ sizeLine then (match atI (S l).cps.toList i with | some c => Res.ok (AV.str ⟨#[c]⟩) A | none => .bad) else .bad) = _
  rw [S_len, szL, if_pos h, S_cps, atI_get h0 hc]
  rfl
theorem sl_S_take {k : Nat} (h : l.length ≤ 16777216) : opSl (.str (S l)) none (some (k : Int)) A = .ok (.str (S (l.take k))) A := by
  show (if (S l).length ≤ sizeLine then Res.ok (AV.str (cutS (S l) none (some (k : Int)))) A else .bad) = _
  rw [S_len, szL, if_pos h]
  unfold cutS
  rw [S_cps, HT.sIx_nat, HT.sIx_none, S_len]
  simp [S]
theorem sl_S_drop {k : Nat} (h : l.length ≤ 16777216) : opSl (.str (S l)) (some (k : Int)) none A = .ok (.str (S (l.drop k))) A := by
  show (if (S l).length ≤ sizeLine then Res.ok (AV.str (cutS (S l) (some (k : Int)) none)) A else .bad) = _
  rw [S_len, szL, if_pos h]
  unfold cutS
  rw [S_cps, HT.sIx_nat, HT.sIx_none, S_len]
  have : (l.drop (min k l.length)).take (l.length - min k l.length) = l.drop k := by
    by_cases hk : k ≤ l.length
    · rw [Nat.min_eq_left hk, List.take_of_length_le (by simp)]
    · rw [Nat.min_eq_right (by omega), List.drop_eq_nil_of_le (Nat.le_refl _), List.drop_eq_nil_of_le (by omega)]
      simp
  rw [this]
  rfl
theorem signs_S : signsA (S l) = l.map fun c => AV.str (S [c]) := by
  unfold signsA
  rw [S_cps]
  rfl
theorem strsA_S : ∀ (ls : List (List Nat)), strsA (ls.map fun l => AV.str (S l)) = some (ls.map S)
  | [] => rfl
  | l :: ls => by
    show (strsA (ls.map fun l => AV.str (S l))).map (S l :: ·) = _
    rw [strsA_S ls]
    rfl
theorem joinS_S : ∀ (ls : List (List Nat)), Str.join (S []) (ls.map S) = S ls.flatten
  | [] => rfl
  | [l] => by
    show S l = S ([l].flatten)
    simp
  | l :: m :: ls => by
    show S l ++ S [] ++ Str.join (S []) ((m :: ls).map S) = _
    rw [joinS_S (m :: ls), S_app, S_app]
    simp
theorem join_S (ls : List (List Nat)) : Txt.join (S []) (ls.map S) = S ls.flatten := by
  unfold Txt.join
  rw [PySem.StrLaws.glued_eq_join]
  exact joinS_S ls
theorem sumL_S {ls : List (List Nat)} : sumL (ls.map S) = (ls.map List.length).sum := by
  unfold sumL
  rw [List.map_map]
  have : (fun x : Str => x.length) ∘ S = List.length := by
    funext l
    exact S_len
  rw [this]

def joinRevR (x : Str) (b : AV) (A : AH) : Res AV := match (sq? b A).bind strsA with
    | some ys => if sumL ys + ys.length * x.length ≤ 16777216 then .ok (.str (Txt.join x ys.reverse)) A else .bad
    | none => .bad
def jrR (a : AV) (r : AH → Res AV) (A : AH) : Res AV := match a with
  | .str x => (r A).bind fun b A => joinRevR x b A
  | _ => .bad
@[simp ↓] theorem eJoinRev_W {fo fe : EF} : @Res.W AV (eJoinRev fo fe ℓ A) kv = @Res.W AV (fo ℓ A) ⟨fun a A => @Res.W AV (jrR a (fe ℓ) A) kv, kv.X⟩ := by
  show @Res.W AV ((fo ℓ A).bind _) kv = _
  rw [bind_W]
  cases fo ℓ A with
  | ok a A => cases a <;> rfl
  | _ => rfl
@[simp ↓] theorem jrR_W {x : Str} {r : AH → Res AV} : @Res.W AV (jrR (.str x) r A) kv = @Res.W AV (r A) ⟨fun b A => @Res.W AV (joinRevR x b A) kv, kv.X⟩ := bind_W
theorem joinRev_S {n : Nat} {ls : List (List Nat)} (h : A.lst? n = some (ls.map fun l => AV.str (S l))) (hs : (ls.map List.length).sum ≤ 16777216) : joinRevR (S []) (.ref n) A = .ok (.str (S ls.reverse.flatten)) A := by
  unfold joinRevR
  rw [sq_ref, h]
  show (match strsA (ls.map fun l => AV.str (S l)) with
    | some ys => if sumL ys + ys.length * (S []).length ≤ 16777216 then Res.ok (AV.str (Txt.join (S []) ys.reverse)) A else .bad
    | none => .bad) = _
  rw [strsA_S]
  show (if sumL (ls.map S) + (ls.map S).length * (S []).length ≤ 16777216 then Res.ok (AV.str (Txt.join (S []) (ls.map S).reverse)) A else .bad) = _
  rw [sumL_S, S_len, if_pos (by simpa using hs), ← List.map_reverse, join_S]
theorem mJoin_S {n : Nat} {ls : List (List Nat)} (h : A.lst? n = some (ls.map fun l => AV.str (S l))) (hs : (ls.map List.length).sum ≤ 16777216) : mJoin (.str (S [])) [.ref n] A = .ok (.str (S ls.flatten)) A := by
  show (match (A.lst? n).bind strsA with
    | some ys => if sumL ys + ys.length * (S []).length ≤ 16777216 then Res.ok (AV.str (Txt.join (S []) ys)) A else .bad
    | none => .bad) = _
  rw [h]
  show (match strsA (ls.map fun l => AV.str (S l)) with
    | some ys => if sumL ys + ys.length * (S []).length ≤ 16777216 then Res.ok (AV.str (Txt.join (S []) ys)) A else .bad
    | none => .bad) = _
  rw [strsA_S]
  show (if sumL (ls.map S) + (ls.map S).length * (S []).length ≤ 16777216 then Res.ok (AV.str (Txt.join (S []) (ls.map S))) A else .bad) = _
  rw [sumL_S, S_len, if_pos (by simpa using hs), join_S]
@[simp] theorem rcv_str {x : Str} : rcv .str (.str x) A = true := (rfl)
@[simp] theorem mFind_3 {x y : Str} {i : Int} : mFind (.str x) [.str y, .int i] A = .ok (.int (Txt.find3 x y i)) A := (rfl)
@[simp] theorem mFind_s' {x y : Str} : mFind (.str x) [.str y] A = .ok (.int (Txt.find x y)) A := (rfl)
end
end Sh

set_option Elab.async false
set_option linter.all false
set_option maxRecDepth 100000
set_option maxHeartbeats 4000000
namespace Sh
open PySem L2 PyProof.Rows
/-! ### instances -/
section
variable {A : AH} {ℓ : LSt} {kv : Kr AV} {K : Ks}
def fldGR (tb : Str → Bool) (f : Str) (a : AV) (A : AH) : Res AV := match a with
  | .ref n => match A.ins? n with
    | some (c, fs) => if tb c then (match fs.lookup f with | some v => .ok v A | none => .bad) else .bad
    | none => .bad
  | _ => .bad
@[simp ↓] theorem eFldG_W {tb : Str → Bool} {f : Str} {fo : EF} : @Res.W AV (eFldG tb f fo ℓ A) kv = @Res.W AV (fo ℓ A) ⟨fun a A => @Res.W AV (fldGR tb f a A) kv, kv.X⟩ := bind_W
theorem fldG_ok {tb : Str → Bool} {f c : Str} {n : Nat} {fs : List (Str × AV)} {v : AV} (h : A.ins? n = some (c, fs)) (ht : tb c = true) (hv : fs.lookup f = some v) : fldGR tb f (.ref n) A = .ok v A := by
  unfold fldGR
  simp [h, ht, hv]
def fldSR (tb : Str → Bool) (f : Str) (v a : AV) (ℓ : LSt) (A : AH) : SRes := match a with
  | .ref n => match A.ins? n with
    | some (c, fs) => if tb c && decide (fs.length < 1000) then .nx ℓ (A.set n (.ins c (putFA f v fs))) else .bad
    | none => .bad
  | _ => .bad
@[simp ↓] theorem sFldS_W {tb : Str → Bool} {f : Str} {fv fo : EF} : @SRes.W (sFldS tb f fv fo ℓ A) K = @Res.W AV (fv ℓ A) ⟨fun v A => @Res.W AV (fo ℓ A) ⟨fun a A => @SRes.W (fldSR tb f v a ℓ A) K, fun c fs A => K.X c fs ℓ A⟩, fun c fs A => K.X c fs ℓ A⟩ := by
  show @SRes.W ((fv ℓ A).toS ℓ _) K = _
  rw [toS_W]
  cases fv ℓ A with
  | ok v A => exact toS_W
  | _ => rfl
theorem fldS_ok {tb : Str → Bool} {f c : Str} {n : Nat} {fs : List (Str × AV)} {v : AV} (h : A.ins? n = some (c, fs)) (ht : tb c = true) (hl : fs.length < 1000) : @SRes.W (fldSR tb f v (.ref n) ℓ A) K = K.N ℓ (A.set n (.ins c (putFA f v fs))) := by
  unfold fldSR
  simp [h, ht, hl]
@[simp ↓] theorem eMake_W {c : Str} {g : GF} {f : AF} : @Res.W AV (eMake c g f ℓ A) kv = @Res.W (List AV) (f ℓ A) ⟨fun as A => @Res.W AV (gCall g (.ref A.length :: as) (A ++ [.ins c []])) ⟨fun v A' => @Res.W AV (asNon A.length v A') kv, kv.X⟩, kv.X⟩ := by
  show @Res.W AV ((f ℓ A).bind _) kv = _
  rw [bind_W]
  cases f ℓ A with
  | ok as A => exact bind_W
  | _ => rfl
@[simp] theorem asNon_ok {n : Nat} : asNon n .non A = .ok (.ref n) A := (rfl)
def methR (tb : Str → Option GF) (m : Str) (fa : AH → Res (List AV)) (a : AV) (A : AH) : Res AV := match a with
  | .ref n => match A.ins? n with
    | some (c, fs) => (match tb c, fs.lookup m with
      | some g, none => (fa A).bind fun as A => gCall g (.ref n :: as) A
      | _, _ => .bad)
    | none => .bad
  | _ => .bad
@[simp ↓] theorem eMeth_W {tb : Str → Option GF} {m : Str} {fo : EF} {fa : AF} : @Res.W AV (eMeth tb m fo fa ℓ A) kv = @Res.W AV (fo ℓ A) ⟨fun a A => @Res.W AV (methR tb m (fa ℓ) a A) kv, kv.X⟩ := bind_W
theorem meth_W {tb : Str → Option GF} {m c : Str} {fa : AH → Res (List AV)} {n : Nat} {fs : List (Str × AV)} {g : GF} (h : A.ins? n = some (c, fs)) (ht : tb c = some g) (hv : fs.lookup m = none) : @Res.W AV (methR tb m fa (.ref n) A) kv = @Res.W (List AV) (fa A) ⟨fun as A => @Res.W AV (gCall g (.ref n :: as) A) kv, kv.X⟩ := by
  unfold methR
  simp only [h, ht, hv]
  exact bind_W

def tupR (is : List Nat) (v : AV) (ℓ : LSt) (A : AH) : SRes := match gTn is v ℓ A with | some ℓ' => .nx ℓ' A | none => .bad
@[simp ↓] theorem sTup_W {is : List Nat} {f : EF} : @SRes.W (sTup is f ℓ A) K = @Res.W AV (f ℓ A) ⟨fun v A => @SRes.W (tupR is v ℓ A) K, fun c fs A => K.X c fs ℓ A⟩ := toS_W
@[simp] theorem tupR_2 {i j : Nat} {a b : AV} : tupR [i, j] (.tup [a, b]) ℓ A = .nx ((ℓ.set i (some a)).set j (some b)) A := (rfl)
@[simp] theorem tupR_3 {i j k : Nat} {a b c : AV} : tupR [i, j, k] (.tup [a, b, c]) ℓ A = .nx (((ℓ.set i (some a)).set j (some b)).set k (some c)) A := (rfl)
end
end Sh

set_option Elab.async false
set_option linter.all false
set_option maxRecDepth 100000
set_option maxHeartbeats 4000000
namespace Sh
open PySem L2 PyProof.Rows
/-! ### data once more -/
section
variable {A : AH} {kv : Kr AV}
theorem eqv_str {a b : Str} : PyData.eqv (.str a) (.str b) = decide (a = b) := by
  unfold PyData.eqv
  rw [Bool.eq_iff_iff]
  simp
theorem eqv_bl {a b : Bool} : PyData.eqv (.bool a) (.bool b) = (a == b) := by unfold PyData.eqv; rfl
theorem eqv_intd {a b : Int} : PyData.eqv (.int a) (.int b) = decide (a = b) := by
  rw [eqv_int, Bool.eq_iff_iff]; simp
theorem cEq_bl {a b : Bool} : cEq (.bl a) (.bl b) A = .ok (.bl (a == b)) A := by
  show Res.ok (AV.bl (PyData.eqv (.bool a) (.bool b))) A = _
  rw [eqv_bl]
theorem cEq_i {a b : Int} : cEq (.int a) (.int b) A = .ok (.bl (decide (a = b))) A := by
  show Res.ok (AV.bl (PyData.eqv (.int a) (.int b))) A = _
  rw [eqv_intd]
theorem cNe_i {a b : Int} : cNe (.int a) (.int b) A = .ok (.bl (!decide (a = b))) A := by
  show Res.ok (AV.bl (!PyData.eqv (.int a) (.int b))) A = _
  rw [eqv_intd]
theorem dats_strs {n : Nat} : ∀ (xs : List Str), datsBy (dat A n) (xs.map .str) = some (xs.map .str)
  | [] => rfl
  | x :: xs => by
    show (match dat A n (.str x), datsBy (dat A n) (xs.map .str) with | some d, some ds => some (d :: ds) | _, _ => none) = _
    rw [dat_str, dats_strs xs]
    rfl
theorem any_strs {x : Str} (xs : List Str) : ((xs.map PyData.str).any fun y => PyData.eqv y (.str x)) = decide (x ∈ xs) := by
  induction xs with
  | nil => rfl
  | cons y ys ih =>
    rw [List.map_cons, List.any_cons, ih, eqv_str, Bool.eq_iff_iff]
    simp only [Bool.or_eq_true, decide_eq_true_eq, List.mem_cons]
    exact ⟨fun h => h.imp (fun e => e.symm) id, fun h => h.imp (fun e => e.symm) id⟩
theorem any_ints {x : Int} (xs : List Int) : ((xs.map PyData.int).any fun y => PyData.eqv y (.int x)) = decide (x ∈ xs) := by
  induction xs with
  | nil => rfl
  | cons y ys ih =>
    rw [List.map_cons, List.any_cons, ih, eqv_intd, Bool.eq_iff_iff]
    simp only [Bool.or_eq_true, decide_eq_true_eq, List.mem_cons]
    exact ⟨fun h => h.imp (fun e => e.symm) id, fun h => h.imp (fun e => e.symm) id⟩
theorem dat_tup {n : Nat} {xs : List AV} {ds : List PyData} (h : datsBy (dat A n) xs = some ds) : dat A (n + 1) (.tup xs) = some (.tuple ds) := by
  show (datsBy (dat A n) xs).map PyData.tuple = _
  rw [h]; rfl
theorem dat_lst {n r : Nat} {xs : List AV} {ds : List PyData} (hr : A.lst? r = some xs) (h : datsBy (dat A n) xs = some ds) : dat A (n + 1) (.ref r) = some (.list ds) := by
  show (match sq? (.ref r) A with | some xs => (datsBy (dat A n) xs).map PyData.list | none => atomD (.ref r)) = _
  rw [sq_ref, hr]
  simp only
  rw [h]; rfl
theorem strsA_map : ∀ {xs : List AV} {ss : List Str}, strsA xs = some ss → xs = ss.map .str
  | [], ss, h => by cases h; rfl
  | .str x :: xs, ss, h => by
    have h' : (strsA xs).map (x :: ·) = some ss := h
    cases e : strsA xs with
    | none => rw [e] at h'; cases h'
    | some t => rw [e] at h'; cases h'; rw [strsA_map e]; rfl
theorem has_strs {x : Str} {xs : List AV} {ss : List Str} (h : strsA xs = some ss) : hasIn (.str x) (.tup xs) A = some (decide (x ∈ ss)) := by
  rw [strsA_map h]
  show (match dat A 12 (.str x), dat A 12 (.tup (ss.map .str)) with | some d, some e => inD d e | _, _ => none) = _
  rw [dat_str, dat_tup (dats_strs ss)]
  show some _ = _
  rw [any_strs]
theorem in_strs {x : Str} {xs : List AV} {ss : List Str} (h : strsA xs = some ss) : cIn (.str x) (.tup xs) A = .ok (.bl (decide (x ∈ ss))) A := by
  unfold cIn; rw [has_strs h]
theorem notin_strs {x : Str} {xs : List AV} {ss : List Str} (h : strsA xs = some ss) : cNotIn (.str x) (.tup xs) A = .ok (.bl (!decide (x ∈ ss))) A := by
  unfold cNotIn; rw [has_strs h]
theorem has_lst_strs {x : Str} {r : Nat} {xs : List AV} {ss : List Str} (hr : A.lst? r = some xs) (h : strsA xs = some ss) : hasIn (.str x) (.ref r) A = some (decide (x ∈ ss)) := by
  rw [strsA_map h] at hr
  show (match dat A 12 (.str x), dat A 12 (.ref r) with | some d, some e => inD d e | _, _ => _) = _
  rw [dat_str, dat_lst hr (dats_strs ss)]
  show some _ = _
  rw [any_strs]
theorem in_lst_strs {x : Str} {r : Nat} {xs : List AV} {ss : List Str} (hr : A.lst? r = some xs) (h : strsA xs = some ss) : cIn (.str x) (.ref r) A = .ok (.bl (decide (x ∈ ss))) A := by
  unfold cIn; rw [has_lst_strs hr h]
theorem has_lst_ints {x : Int} {r : Nat} {bs : List Int} (hr : A.lst? r = some (bs.map .int)) : hasIn (.int x) (.ref r) A = some (decide (x ∈ bs)) := by
  show (match dat A 12 (.int x), dat A 12 (.ref r) with | some d, some e => inD d e | _, _ => _) = _
  rw [dat_int, dat_lst hr (dats_ints (fun i => dat_int) bs)]
  show some _ = _
  rw [any_ints]
theorem in_lst_ints {x : Int} {r : Nat} {bs : List Int} (hr : A.lst? r = some (bs.map .int)) : cIn (.int x) (.ref r) A = .ok (.bl (decide (x ∈ bs))) A := by
  unfold cIn; rw [has_lst_ints hr]
theorem notin_lst_ints {x : Int} {r : Nat} {bs : List Int} (hr : A.lst? r = some (bs.map .int)) : cNotIn (.int x) (.ref r) A = .ok (.bl (!decide (x ∈ bs))) A := by
  unfold cNotIn; rw [has_lst_ints hr]
theorem eq_lst_ints {p r : Nat} {xs ys : List Int} (hp : A.lst? p = some (xs.map .int)) (hr : A.lst? r = some (ys.map .int)) : cEq (.ref p) (.ref r) A = .ok (.bl (decide (xs = ys))) A := by
  show (match dat A 12 (.ref p), dat A 12 (.ref r) with | some d, some e => Res.ok (AV.bl (PyData.eqv d e)) A | _, _ => .bad) = _
  rw [dat_ints hp, dat_ints hr]
  show Res.ok (AV.bl (PyData.eqv (.list _) (.list _))) A = _
  rw [← PySem.W.ked_eqvAll]
  simp only [PyData.eqv]
theorem atI_neg {α : Type} {xs : List α} {i : Int} {v : α} (h : i < 0) (h2 : -(xs.length : Int) ≤ i) (e : xs[(i + xs.length).toNat]? = some v) : atI xs i = some v := by
  unfold atI ixN
  rw [if_neg (by omega), if_pos h2]
  exact e
theorem ix_lst {n k : Nat} {xs : List AV} {v : AV} (h : A.lst? n = some xs) (e : xs[k]? = some v) : opIx (.ref n) (.int (k : Int)) A = .ok v A := by
  rw [opIx_lst h]
  exact atA_get (by omega) (by simpa using e)
theorem ix_end {n : Nat} {xs : List AV} {v : AV} (h : A.lst? n = some xs) (e : xs.getLast? = some v) : opIx (.ref n) (.int (-1)) A = .ok v A := by
  rw [opIx_lst h]
  unfold atA
  have h0 : 0 < xs.length := by cases xs with | nil => cases e | cons a b => simp
  rw [List.getLast?_eq_getElem?] at e
  have e' : xs[(-1 + (xs.length : Int)).toNat]? = some v := by
    have : (-1 + (xs.length : Int)).toNat = xs.length - 1 := by omega
    rw [this]; exact e
  rw [atI_neg (by omega) (by omega) e']
theorem cut_take {xs : List AV} {p : Int} (h : 0 ≤ p) : cutA xs none (some p) = xs.take p.toNat := by
  obtain ⟨k, rfl⟩ : ∃ k : Nat, p = k := ⟨p.toNat, by omega⟩
  unfold cutA
  rw [HT.sIx_nat, HT.sIx_none]
  simp
theorem cut_drop {xs : List AV} {p : Int} (h : 0 ≤ p) : cutA xs (some p) none = xs.drop p.toNat := by
  obtain ⟨k, rfl⟩ : ∃ k : Nat, p = k := ⟨p.toNat, by omega⟩
  unfold cutA
  rw [HT.sIx_nat, HT.sIx_none]
  simp
  by_cases hk : k ≤ xs.length
  · rw [Nat.min_eq_left hk, List.take_of_length_le (by simp)]
  · rw [Nat.min_eq_right (by omega), List.drop_eq_nil_of_le (Nat.le_refl _), List.drop_eq_nil_of_le (by omega)]
    simp
theorem cut_init {xs : List AV} : cutA xs none (some (-1)) = xs.dropLast := by
  unfold cutA
  have e : HT.sIx xs.length xs.length (some (-1)) = xs.length - 1 := by
    unfold HT.sIx
    simp
    omega
  rw [e, HT.sIx_none, List.dropLast_eq_take]
  simp
@[simp] theorem atA_3 {a b c x : AV} {xs : List AV} : atA (a :: b :: c :: x :: xs) 3 A = .ok x A := atA_get (by omega) rfl
@[simp] theorem atA_4 {a b c d x : AV} {xs : List AV} : atA (a :: b :: c :: d :: x :: xs) 4 A = .ok x A := atA_get (by omega) rfl
@[simp] theorem atA_5 {a b c d e x : AV} {xs : List AV} : atA (a :: b :: c :: d :: e :: x :: xs) 5 A = .ok x A := atA_get (by omega) rfl
/-! ### dict displays -/
def keyR (k v : AV) (ps : List (Key × AV)) (A : AH) : Res (List (Key × AV)) := match keyOf k with
  | some key => .ok ((key, v) :: ps) A
  | none => .bad
@[simp] theorem keyR_int {i : Int} {v : AV} {ps : List (Key × AV)} : keyR (.int i) v ps A = .ok ((.inl i, v) :: ps) A := (rfl)
@[simp] theorem keyR_str {i : Str} {v : AV} {ps : List (Key × AV)} : keyR (.str i) v ps A = .ok ((.inr i, v) :: ps) A := (rfl)
@[simp ↓] theorem pairs_nil_W {ℓ : LSt} {kk : Kr (List (Key × AV))} : @Res.W _ (pairsF [] ℓ A) kk = kk.V [] A := (rfl)
@[simp ↓] theorem pairs_cons_W {ℓ : LSt} {kk : Kr (List (Key × AV))} {fk fv : EF} {r : List (EF × EF)} : @Res.W _ (pairsF ((fk, fv) :: r) ℓ A) kk = @Res.W AV (fk ℓ A) ⟨fun k A => @Res.W AV (fv ℓ A) ⟨fun v A => @Res.W _ (pairsF r ℓ A) ⟨fun ps A => @Res.W _ (keyR k v ps A) kk, kk.X⟩, kk.X⟩, kk.X⟩ := by
  show @Res.W _ ((fk ℓ A).bind _) kk = _
  rw [bind_W]
  cases fk ℓ A with
  | ok k A1 =>
    simp only [Wr_ok, bind_W]
    cases fv ℓ A1 with
    | ok v A2 =>
      simp only [Wr_ok, bind_W]
      rfl
    | _ => rfl
  | _ => rfl
theorem dct_lst {n : Nat} {kvs : List (Key × AV)} (h : A.dct? n = some kvs) : A.lst? n = none := by
  have := dct_at h
  unfold AH.lst?
  rw [this]
theorem opIx_d {n : Nat} {kvs : List (Key × AV)} {i : AV} {key : Key} {v : AV} (h : A.dct? n = some kvs) (hi : keyOf i = some key) (hv : valA kvs key = some v) : opIx (.ref n) i A = .ok v A := by
  cases i with
  | int i => cases hi; simp only [opIx, dct_lst h, h, keyOf, hv]
  | str i => cases hi; simp only [opIx, dct_lst h, h, keyOf, hv]
  | _ => cases hi
@[simp] theorem dct_tail {T l : AH} {k : Nat} : AH.dct? (T ++ l) (T.length + k) = AH.dct? l k := by
  unfold AH.dct?
  rw [List.getElem?_append_right (by omega)]
  simp
@[simp] theorem dct_tail0 {T l : AH} : AH.dct? (T ++ l) T.length = AH.dct? l 0 := dct_tail (k := 0)
@[simp] theorem dct_c0 {xs : List (Key × AV)} {l : AH} : AH.dct? (.dct xs :: l) 0 = some xs := (rfl)
@[simp] theorem dct_cS {o : AO} {l : AH} {k : Nat} : AH.dct? (o :: l) (k + 1) = AH.dct? l k := (rfl)
@[simp] theorem dct_hp {g : Bag} {T : AH} {k : Nat} : AH.dct? (hp g T) (k + 2) = AH.dct? T k := (rfl)
/-! ### what grew -/
def Gr (A A' : AH) : Prop := ∃ U, A' = A ++ U
theorem Gr.refl (A : AH) : Gr A A := ⟨[], (List.append_nil A).symm⟩
theorem Gr.app {A B : AH} (h : Gr A B) (U : AH) : Gr A (B ++ U) := by
  obtain ⟨V, rfl⟩ := h
  exact ⟨V ++ U, List.append_assoc _ _ _⟩
theorem Gr.trans {A B C : AH} (h : Gr A B) (k : Gr B C) : Gr A C := by
  obtain ⟨V, rfl⟩ := k
  exact h.app V
theorem Gr.lst {A B : AH} (h : Gr A B) {n : Nat} {xs : List AV} (e : A.lst? n = some xs) : B.lst? n = some xs := by
  obtain ⟨V, rfl⟩ := h
  exact lst_app e V
theorem Gr.at {A B : AH} (h : Gr A B) {n : Nat} {o : AO} (e : A[n]? = some o) : B[n]? = some o := by
  obtain ⟨V, rfl⟩ := h
  rw [List.getElem?_append_left (List.getElem?_eq_some_iff.mp e).1]
  exact e
theorem Gr.dct {A B : AH} (h : Gr A B) {n : Nat} {xs : List (Key × AV)} (e : A.dct? n = some xs) : B.dct? n = some xs := by
  have e1 := h.at (dct_at e)
  unfold AH.dct?
  rw [e1]
theorem Gr.set {A B : AH} (h : Gr A B) {k : Nat} {o : AO} (hk : A.length ≤ k) : Gr A (B.set k o) := by
  obtain ⟨V, rfl⟩ := h
  rw [List.set_append_right _ _ hk]
  exact ⟨_, rfl⟩
theorem Gr.len {A B : AH} (h : Gr A B) : A.length ≤ B.length := by
  obtain ⟨V, rfl⟩ := h
  simp
theorem Gr.one {A : AH} {U : AH} : Gr A (A ++ U) := ⟨U, rfl⟩
/-! ### turns of a comprehension, one by one -/
theorem lcP {xs : List AV} {i : Nat} {t : TF} {elt : EF} {ℓ0 : LSt} {kl : Kr (List AV)} (f : AV → AV) (hn : xs.length ≤ sizeLine)
    (ht : ∀ x ∈ xs, t (ℓ0.set i (some x)) A = .ok true A) (he : ∀ x ∈ xs, elt (ℓ0.set i (some x)) A = .ok (f x) A)
    (hv : kl.V (xs.map f) A) : @Res.W (List AV) (lcLoop (wPure xs) (gNm i) t elt ℓ0 (wPure xs).n 0 [] A) kl := by
  refine lcW (fun k acc A' => A' = A ∧ acc = (xs.take k).map f) (n := xs.length) hn ?_ ?_ _ _ _ _ (by show 0 + xs.length = _; omega) (by simp) ⟨rfl, by simp⟩
  · rintro k acc A' hk _ ⟨rfl, rfl⟩
    refine ⟨xs[k], _, List.getElem?_eq_getElem hk, rfl, ?_⟩
    rw [ht _ (List.getElem_mem hk)]
    simp only [Wr_ok, if_true]
    rw [he _ (List.getElem_mem hk)]
    simp only [Wr_ok]
    refine ⟨trivial, ?_⟩
    rw [List.take_succ_eq_append_getElem hk, List.map_append]
    rfl
  · rintro acc A' _ ⟨rfl, rfl⟩
    rw [List.take_length]
    exact ⟨rfl, hv⟩
theorem lcL {r : Nat} {xs : List AV} {i : Nat} {t : TF} {elt : EF} {ℓ0 : LSt} {kl : Kr (List AV)} (f : AV → AV) (hr : A.lst? r = some xs) (hn : xs.length ≤ sizeLine)
    (ht : ∀ x ∈ xs, t (ℓ0.set i (some x)) A = .ok true A) (he : ∀ x ∈ xs, elt (ℓ0.set i (some x)) A = .ok (f x) A)
    (hv : kl.V (xs.map f) A) : @Res.W (List AV) (lcLoop (wLst r xs) (gNm i) t elt ℓ0 (wLst r xs).n 0 [] A) kl := by
  refine lcW (fun k acc A' => A' = A ∧ acc = (xs.take k).map f) (n := xs.length) hn ?_ ?_ _ _ _ _ (by show 0 + xs.length = _; omega) (by simp) ⟨rfl, by simp⟩
  · rintro k acc A' hk _ ⟨rfl, rfl⟩
    refine ⟨xs[k], _, by show (A'.lst? r).bind _ = _; rw [hr]; exact List.getElem?_eq_getElem hk, rfl, ?_⟩
    rw [ht _ (List.getElem_mem hk)]
    simp only [Wr_ok, if_true]
    rw [he _ (List.getElem_mem hk)]
    simp only [Wr_ok]
    refine ⟨trivial, ?_⟩
    rw [List.take_succ_eq_append_getElem hk, List.map_append]
    rfl
  · rintro acc A' _ ⟨rfl, rfl⟩
    rw [List.take_length]
    exact ⟨by show (match A'.lst? r with | some ys => ys.length == xs.length | none => false) = true; rw [hr]; simp, hv⟩
end
end Sh

set_option Elab.async false
set_option linter.all false
set_option maxRecDepth 100000
set_option maxHeartbeats 4000000
namespace Sh
open PySem L2 PyProof.Rows
/-! ### rules of simp for the further forms -/
section
variable {ℓ : LSt} {A : AH} {K : Ks} {kw : Kr Walk} {kv : Kr AV}
@[simp ↓] theorem iEnumF_W {f : EF} : @Res.W Walk (iEnumF f ℓ A) kw = @Res.W AV (f ℓ A) ⟨fun a A => @Res.W Walk (enR a A) kw, kw.X⟩ := bind_W
@[simp ↓] theorem iZipF_W {f g : EF} : @Res.W Walk (iZipF f g ℓ A) kw = @Res.W AV (f ℓ A) ⟨fun a A => @Res.W AV (g ℓ A) ⟨fun b A => @Res.W Walk (zpR a b A) kw, kw.X⟩, kw.X⟩ := by
  show @Res.W Walk ((f ℓ A).bind _) kw = _
  rw [bind_W]
  cases f ℓ A <;> first | rfl | exact bind_W
@[simp] theorem isNon_non : isNonB .non = true := (rfl)
@[simp] theorem isNon_str {x : Str} : isNonB (.str x) = false := (rfl)
@[simp] theorem isNon_int {x : Int} : isNonB (.int x) = false := (rfl)
@[simp] theorem isNon_bl {x : Bool} : isNonB (.bl x) = false := (rfl)
@[simp] theorem isNon_tup {x : List AV} : isNonB (.tup x) = false := (rfl)
@[simp] theorem isNon_ref {x : Nat} : isNonB (.ref x) = false := (rfl)
def getB (a : AV) (r : AH → Res AV) (A : AH) : Res AV := if isD a A then r A else .bad
@[simp ↓] theorem eGet1_W {fo fe : EF} : @Res.W AV (eGet1 fo fe ℓ A) kv = @Res.W AV (fo ℓ A) ⟨fun a A => isD a A = true ∧ @Res.W AV (fe ℓ A) ⟨fun k A => @Res.W AV (getR .non a k A) kv, kv.X⟩, kv.X⟩ := by
  show @Res.W AV ((fo ℓ A).bind _) kv = _
  rw [bind_W]
  cases fo ℓ A with
  | ok a A =>
    show @Res.W AV (if isD a A then _ else _) kv = (_ ∧ _)
    by_cases h : isD a A = true
    · rw [if_pos h, bind_W]; simp [h]
    · rw [if_neg h]; simp [h, Res.W]
  | _ => rfl
@[simp ↓] theorem eGet2_W {fo fe fd : EF} : @Res.W AV (eGet2 fo fe fd ℓ A) kv = @Res.W AV (fo ℓ A) ⟨fun a A => isD a A = true ∧ @Res.W AV (fe ℓ A) ⟨fun k A => @Res.W AV (fd ℓ A) ⟨fun d A => @Res.W AV (getR d a k A) kv, kv.X⟩, kv.X⟩, kv.X⟩ := by
  show @Res.W AV ((fo ℓ A).bind _) kv = _
  rw [bind_W]
  cases fo ℓ A with
  | ok a A =>
    show @Res.W AV (if isD a A then _ else _) kv = (_ ∧ _)
    by_cases h : isD a A = true
    · rw [if_pos h, bind_W]
      simp only [h, true_and]
      cases fe ℓ A with
      | ok k A => simp only [Wr_ok]; exact bind_W
      | _ => rfl
    · rw [if_neg h]; simp [h, Res.W]
  | _ => rfl
@[simp] theorem enR_tup {xs : List AV} : enR (.tup xs) A = .ok (wEnP xs) A := (rfl)
@[simp] theorem enR_str {x : Str} : enR (.str x) A = .ok (wEnP (signsA x)) A := (rfl)
theorem enR_lst {n : Nat} {xs : List AV} (h : A.lst? n = some xs) : enR (.ref n) A = .ok (wEnL n xs) A := by
  unfold enR
  simp [h]
@[simp] theorem cIs_bl {a b : Bool} : cIs (.bl a) (.bl b) A = .ok (.bl (decide (a = b))) A := (rfl)
@[simp] theorem cIsNot_bl {a b : Bool} : cIsNot (.bl a) (.bl b) A = .ok (.bl (!decide (a = b))) A := (rfl)
theorem blsA_map : ∀ (bs : List Bool), blsA (bs.map .bl) = some bs
  | [] => rfl
  | b :: bs => by
    show (blsA (bs.map .bl)).map (b :: ·) = _
    rw [blsA_map bs]; rfl
theorem bAll_lst {n : Nat} {bs : List Bool} (h : A.lst? n = some (bs.map .bl)) : bAll [.ref n] A = .ok (.bl (bs.all id)) A := by
  show (match (A.lst? n).bind blsA with | some bs => Res.ok (AV.bl (bs.all id)) A | none => .bad) = _
  rw [h, Option.bind_some, blsA_map]
theorem put_l {n : Nat} {xs : List AV} {i : Int} {v : AV} (h : A.lst? n = some xs) (h0 : 0 ≤ i) (h1 : i < xs.length) : @SRes.W (putS (.ref n) (.int i) v ℓ A) K = K.N ℓ (A.set n (.lst (xs.set i.toNat v))) := by
  refine put_W ?_
  unfold opSet
  simp only [h]
  unfold ixN
  rw [if_pos h0, if_pos h1]
theorem lst_set {n : Nat} {o : AO} {xs ys : List AV} (h : A.lst? n = some xs) : AH.lst? (A.set n (.lst ys)) n = some ys := by
  have hn : n < A.length := (List.getElem?_eq_some_iff.mp (lst_at h)).1
  unfold AH.lst?
  rw [List.getElem?_set_self hn]
theorem lst_set_ne {n m : Nat} {o : AO} (h : n ≠ m) : AH.lst? (A.set n o) m = AH.lst? A m := by
  unfold AH.lst?
  rw [List.getElem?_set_ne h]
/-! ### a comprehension whose turns are known -/
theorem lcG {w : Walk} {tg : GF1} {t : TF} {elt : EF} {ℓ0 : LSt} {kl : Kr (List AV)} {n : Nat} (f : Nat → AV) (hn : n ≤ sizeLine) (hw : w.n = n) (hst : w.stop A = true)
    (hs : ∀ k, k < n → ∃ x ℓ1, w.get k A = some x ∧ tg x ℓ0 A = some ℓ1 ∧ t ℓ1 A = .ok true A ∧ elt ℓ1 A = .ok (f k) A)
    (hv : kl.V ((List.range n).map f) A) : @Res.W (List AV) (lcLoop w tg t elt ℓ0 w.n 0 [] A) kl := by
  refine lcW (fun k acc A' => A' = A ∧ acc = (List.range k).map f) (n := n) hn ?_ ?_ _ _ _ _ (by omega) (by simp) ⟨rfl, by simp⟩
  · rintro k acc A' hk _ ⟨rfl, rfl⟩
    obtain ⟨x, ℓ1, h1, h2, h3, h4⟩ := hs k hk
    refine ⟨x, ℓ1, h1, h2, ?_⟩
    rw [h3]
    simp only [Wr_ok, if_true]
    rw [h4]
    simp only [Wr_ok]
    refine ⟨trivial, ?_⟩
    rw [List.range_succ, List.map_append]
    rfl
  · rintro acc A' _ ⟨rfl, rfl⟩
    exact ⟨hst, hv⟩
/-! ### data of any depth -/
theorem datsBy_cons {f : AV → Option PyData} {x : AV} {xs : List AV} {d : PyData} {ds : List PyData} (h : f x = some d) (h2 : datsBy f xs = some ds) : datsBy f (x :: xs) = some (d :: ds) := by
  show (match f x, datsBy f xs with | some d, some ds => some (d :: ds) | _, _ => none) = _
  rw [h, h2]
theorem datsBy_gr {f g : AV → Option PyData} (hf : ∀ v d, f v = some d → g v = some d) : ∀ {xs : List AV} {ds : List PyData}, datsBy f xs = some ds → datsBy g xs = some ds
  | [], ds, h => h
  | a :: as, ds, h => by
    have h' : (match f a, datsBy f as with | some d, some ds => some (d :: ds) | _, _ => none) = some ds := h
    cases e1 : f a with
    | none => rw [e1] at h'; cases h'
    | some d =>
      cases e2 : datsBy f as with
      | none => rw [e1, e2] at h'; cases h'
      | some es =>
        rw [e1, e2] at h'
        cases h'
        exact datsBy_cons (hf _ _ e1) (datsBy_gr hf e2)
theorem sq_gr {A B : AH} (gr : Gr A B) {v : AV} {xs : List AV} (h : sq? v A = some xs) : sq? v B = some xs := by
  cases v with
  | ref n => exact gr.lst h
  | fl ys => exact h
  | _ => exact h
theorem dat_gr {A B : AH} (gr : Gr A B) : ∀ (n : Nat) (v : AV) (d : PyData), dat A n v = some d → dat B n v = some d
  | 0, v, d, h => h
  | n + 1, v, d, h => by
    cases v with
    | tup xs =>
      have h' : (datsBy (dat A n) xs).map PyData.tuple = some d := h
      cases e : datsBy (dat A n) xs with
      | none => rw [e] at h'; cases h'
      | some ds => rw [e] at h'; rw [dat_tup (datsBy_gr (dat_gr gr n) e)]; exact h'
    | ref k =>
      have h' : (match A.lst? k with | some xs => (datsBy (dat A n) xs).map PyData.list | none => atomD (.ref k)) = some d := h
      cases e0 : A.lst? k with
      | none => rw [e0] at h'; cases h'
      | some xs =>
        rw [e0] at h'
        cases e : datsBy (dat A n) xs with
        | none => simp only [e] at h'; cases h'
        | some ds => simp only [e] at h'; rw [dat_lst (gr.lst e0) (datsBy_gr (dat_gr gr n) e)]; exact h'
    | fl xs =>
      have h' : (datsBy (dat A n) xs).map PyData.list = some d := h
      show (datsBy (dat B n) xs).map PyData.list = some d
      cases e : datsBy (dat A n) xs with
      | none => rw [e] at h'; cases h'
      | some ds => rw [e] at h'; rw [datsBy_gr (dat_gr gr n) e]; exact h'
    | _ => exact h
/-- v is data where A stands -/
def Dt (A : AH) (v : AV) : Prop := ∃ d, dat A 11 v = some d
theorem Dt.gr {A B : AH} (gr : Gr A B) {v : AV} (h : Dt A v) : Dt B v := let ⟨d, e⟩ := h; ⟨d, dat_gr gr _ _ _ e⟩
theorem dat_up {A : AH} : ∀ (n : Nat) (v : AV) (d : PyData), dat A n v = some d → dat A (n + 1) v = some d
  | 0, v, d, h => by cases v <;> first | exact h | cases h
  | n + 1, v, d, h => by
    cases v with
    | tup xs =>
      have h' : (datsBy (dat A n) xs).map PyData.tuple = some d := h
      cases e : datsBy (dat A n) xs with
      | none => rw [e] at h'; cases h'
      | some ds => rw [e] at h'; rw [dat_tup (datsBy_gr (dat_up n) e)]; exact h'
    | ref k =>
      have h' : (match A.lst? k with | some xs => (datsBy (dat A n) xs).map PyData.list | none => atomD (.ref k)) = some d := h
      cases e0 : A.lst? k with
      | none => rw [e0] at h'; cases h'
      | some xs =>
        rw [e0] at h'
        cases e : datsBy (dat A n) xs with
        | none => simp only [e] at h'; cases h'
        | some ds => simp only [e] at h'; rw [dat_lst e0 (datsBy_gr (dat_up n) e)]; exact h'
    | fl xs =>
      have h' : (datsBy (dat A n) xs).map PyData.list = some d := h
      show (datsBy (dat A (n + 1)) xs).map PyData.list = some d
      cases e : datsBy (dat A n) xs with
      | none => rw [e] at h'; cases h'
      | some ds => rw [e] at h'; rw [datsBy_gr (dat_up n) e]; exact h'
    | _ => exact h
/-- data, at a depth -/
def Dn (n : Nat) (A : AH) (v : AV) : Prop := ∃ d, dat A n v = some d
theorem Dn.up {n : Nat} {A : AH} {v : AV} (h : Dn n A v) : Dn (n + 1) A v := let ⟨d, e⟩ := h; ⟨d, dat_up _ _ _ e⟩
theorem Dn.le {n m : Nat} {A : AH} {v : AV} (h : Dn n A v) (hm : n ≤ m) : Dn m A v := by
  induction hm with
  | refl => exact h
  | step _ ih => exact ih.up
theorem Dn.gr {n : Nat} {A B : AH} (gr : Gr A B) {v : AV} (h : Dn n A v) : Dn n B v := let ⟨d, e⟩ := h; ⟨d, dat_gr gr _ _ _ e⟩
theorem dats_all {n : Nat} {A : AH} : ∀ {xs : List AV}, (∀ x ∈ xs, Dn n A x) → ∃ ds, datsBy (dat A n) xs = some ds
  | [], _ => ⟨[], rfl⟩
  | x :: xs, h => by
    obtain ⟨d, e⟩ := h x List.mem_cons_self
    obtain ⟨ds, e2⟩ := dats_all (xs := xs) fun y hy => h y (List.mem_cons_of_mem _ hy)
    exact ⟨d :: ds, datsBy_cons e e2⟩
theorem Dn.tup {n : Nat} {A : AH} {xs : List AV} (h : ∀ x ∈ xs, Dn n A x) : Dn (n + 1) A (.tup xs) := let ⟨ds, e⟩ := dats_all h; ⟨_, dat_tup e⟩
theorem Dn.lst {n r : Nat} {A : AH} {xs : List AV} (hr : A.lst? r = some xs) (h : ∀ x ∈ xs, Dn n A x) : Dn (n + 1) A (.ref r) := let ⟨ds, e⟩ := dats_all h; ⟨_, dat_lst hr e⟩
theorem datsBy_mem {f : AV → Option PyData} : ∀ {xs : List AV} {ds : List PyData}, datsBy f xs = some ds → ∀ x ∈ xs, ∃ d, f x = some d
  | [], _, _, x, hx => by cases hx
  | a :: as, ds, h, x, hx => by
    have h' : (match f a, datsBy f as with | some d, some ds => some (d :: ds) | _, _ => none) = some ds := h
    cases e1 : f a with
    | none => rw [e1] at h'; cases h'
    | some d =>
      cases e2 : datsBy f as with
      | none => rw [e1, e2] at h'; cases h'
      | some es =>
        rcases List.mem_cons.mp hx with rfl | hx
        · exact ⟨d, e1⟩
        · exact datsBy_mem e2 x hx
theorem Dn.mem {n : Nat} {A : AH} {xs : List AV} (h : Dn (n + 1) A (.tup xs)) : ∀ x ∈ xs, Dn n A x := by
  obtain ⟨d, e⟩ := h
  have e' : (datsBy (dat A n) xs).map PyData.tuple = some d := e
  cases e2 : datsBy (dat A n) xs with
  | none => rw [e2] at e'; cases e'
  | some ds => exact datsBy_mem e2
@[simp] theorem Dn_int {n : Nat} {A : AH} {i : Int} : Dn n A (.int i) := ⟨_, dat_int⟩
@[simp] theorem Dn_bl {n : Nat} {A : AH} {i : Bool} : Dn n A (.bl i) := ⟨_, dat_bl⟩
@[simp] theorem Dn_non {n : Nat} {A : AH} : Dn n A .non := ⟨_, dat_non⟩
@[simp] theorem Dn_str {n : Nat} {A : AH} {i : Str} : Dn n A (.str i) := ⟨_, dat_str⟩
def Atom : AV → Prop
  | .non => True | .bl _ => True | .int _ => True | .str _ => True | _ => False
theorem Atom.dn {n : Nat} {A : AH} {v : AV} (h : Atom v) : Dn n A v := by cases v <;> first | simp | exact h.elim
/-- its kind -/
def btD : AV → BT
  | .non => .non | .bl _ => .bl | .int _ => .int | .str _ => .str | .tup _ => .tup | _ => .lst
theorem Dn.bt {n : Nat} {A : AH} {v : AV} (h : Dn n A v) : btOf v A = some (btD v) := by
  obtain ⟨d, e⟩ := h
  cases v with
  | ref k =>
    cases n with
    | zero => cases e
    | succ n =>
      have h' : (match A.lst? k with | some xs => (datsBy (dat A n) xs).map PyData.list | none => atomD (.ref k)) = some d := e
      cases e0 : A.lst? k with
      | none => rw [e0] at h'; cases h'
      | some xs => exact bt_lst e0
  | fl xs => rfl
  | ty => cases n <;> cases e
  | cls => cases n <;> cases e
  | gd => cases n <;> cases e
  | _ => rfl
def isTupD : AV → Bool
  | .tup _ => true
  | _ => false
def isStrD : AV → Bool
  | .str _ => true
  | _ => false
theorem Dn.isTup {n : Nat} {A : AH} {v : AV} (h : Dn n A v) : bIsi [v, .ty "tuple"] A = .ok (.bl (isTupD v)) A := by
  rw [isi1, h.bt]
  cases v <;> rfl
theorem Dn.isStr {n : Nat} {A : AH} {v : AV} (h : Dn n A v) : bIsi [v, .ty "str"] A = .ok (.bl (isStrD v)) A := by
  rw [isi1, h.bt]
  cases v <;> rfl
theorem Dn.isInt {n : Nat} {A : AH} {v : AV} (h : Dn n A v) : bIsi [v, .ty "int"] A = .ok (.bl (isI v || isBlB v)) A := by
  rw [isi1, h.bt]
  cases v <;> rfl
theorem Dn.isBool {n : Nat} {A : AH} {v : AV} (h : Dn n A v) : bIsi [v, .ty "bool"] A = .ok (.bl (isBlB v)) A := by
  rw [isi1, h.bt]
  cases v <;> rfl
theorem Dn.self {n : Nat} {A : AH} {v : AV} (h : Dn n A v) (hn : n ≤ 12) : cEq v v A = .ok (.bl true) A := let ⟨_, e⟩ := h.le hn; cEq_self e
theorem Dn.selfNe {n : Nat} {A : AH} {v : AV} (h : Dn n A v) (hn : n ≤ 12) : cNe v v A = .ok (.bl false) A := let ⟨_, e⟩ := h.le hn; cNe_self e
/-- the value is this text -/
def isS (s : Str) : AV → Bool
  | .str x => decide (x = s)
  | _ => false
theorem Dn.eqS {n : Nat} {A : AH} {v : AV} {s : Str} (h : Dn n A v) (hn : n ≤ 12) : cEq v (.str s) A = .ok (.bl (isS s v)) A := by
  obtain ⟨d, e⟩ := h.le hn
  show (match dat A 12 v, dat A 12 (.str s) with | some d, some e => Res.ok (AV.bl (PyData.eqv d e)) A | _, _ => .bad) = _
  rw [e, dat_str]
  show Res.ok (AV.bl (PyData.eqv d (.str s))) A = _
  have : PyData.eqv d (.str s) = isS s v := by
    cases v with
    | non => rw [dat_non] at e; cases e; rfl
    | bl => rw [dat_bl] at e; cases e; rfl
    | int => rw [dat_int] at e; cases e; rfl
    | str x => rw [dat_str] at e; cases e; exact eqv_str
    | tup xs =>
      have e' : (datsBy (dat A 11) xs).map PyData.tuple = some d := e
      cases e2 : datsBy (dat A 11) xs with
      | none => rw [e2] at e'; cases e'
      | some ds => rw [e2] at e'; cases e'; rfl
    | fl xs =>
      have e' : (datsBy (dat A 11) xs).map PyData.list = some d := e
      cases e2 : datsBy (dat A 11) xs with
      | none => rw [e2] at e'; cases e'
      | some ds => rw [e2] at e'; cases e'; rfl
    | ref k =>
      have h' : (match A.lst? k with | some xs => (datsBy (dat A 11) xs).map PyData.list | none => atomD (.ref k)) = some d := e
      cases e0 : A.lst? k with
      | none => rw [e0] at h'; cases h'
      | some xs =>
        rw [e0] at h'
        cases e2 : datsBy (dat A 11) xs with
        | none => simp only [e2] at h'; cases h'
        | some ds => simp only [e2] at h'; cases h'; rfl
    | ty => cases e
    | cls => cases e
    | gd => cases e
  rw [this]
end
end Sh

set_option Elab.async false
set_option linter.all false
set_option maxRecDepth 100000
set_option maxHeartbeats 4000000
namespace Sh
open PySem L2 PyProof.Rows Builtin.Str
/-! ### the first place from lo on at which p fails -/
def nxP (p : Nat → Bool) (l : List Nat) (lo : Nat) : Nat := lo + ((l.drop lo).takeWhile p).length
section
variable {p : Nat → Bool} {l : List Nat} {lo d c : Nat}
theorem drop_at (h : l[lo]? = some d) : l.drop lo = d :: l.drop (lo + 1) := by
  obtain ⟨hk, e⟩ := List.getElem?_eq_some_iff.mp h
  rw [List.drop_eq_getElem_cons hk, e]
theorem nxP_hit (h : l[lo]? = some d) (hp : p d = false) : nxP p l lo = lo := by
  unfold nxP
  rw [drop_at h]
  simp [List.takeWhile, hp]
theorem nxP_step (h : l[lo]? = some d) (hp : p d = true) : nxP p l lo = nxP p l (lo + 1) := by
  unfold nxP
  rw [drop_at h]
  simp [List.takeWhile, hp]
  omega
theorem nxP_out (h : l.length ≤ lo) : nxP p l lo = lo := by
  unfold nxP
  rw [List.drop_eq_nil_of_le h]
  rfl
theorem nxP_ge : lo ≤ nxP p l lo := by unfold nxP; omega
theorem tw_le : (l.takeWhile p).length ≤ l.length := (List.takeWhile_prefix (l := l) p).length_le
theorem tw_mem {x : Nat} : ∀ {l : List Nat}, x ∈ l.takeWhile p → p x = true
  | [], h => by cases h
  | a :: r, h => by
    cases e : p a with
    | true =>
      rw [List.takeWhile_cons, if_pos e] at h
      rcases List.mem_cons.mp h with rfl | h
      · exact e
      · exact tw_mem h
    | false =>
      rw [List.takeWhile_cons, e] at h
      cases h
theorem nxP_le (h : lo ≤ l.length) : nxP p l lo ≤ l.length := by
  unfold nxP
  have := tw_le (p := p) (l := l.drop lo)
  simp at this
  omega
theorem nxP_drop {k : Nat} : nxP p (l.drop k) 0 + k = nxP p l k := by unfold nxP; simp; omega
theorem nxP_all : nxP p l 0 = l.length ↔ l.all p = true := by
  unfold nxP
  simp only [List.drop_zero, Nat.zero_add]
  induction l with
  | nil => simp
  | cons a r ih =>
    cases e : p a with
    | true => simp [List.takeWhile, e] at ih ⊢; exact ih
    | false => simp [List.takeWhile, e]
theorem occ_full {x y : Str} {hi : Nat} : ∀ (ks : List Nat) (st : Array Nat × Nat), st.fst.size = 1 → (forIn ks st (StrLaws.occBody x y hi 1)).run.fst = st.fst
  | [], st, h => rfl
  | a :: ks, st, h => by
    rw [List.forIn_cons]
    unfold StrLaws.occBody
    have hn : ¬ (((st.fst.size < 1 ∧ st.snd ≤ a) ∧ a + y.length ≤ hi) ∧ subAt x y a = true) := fun hc => by omega
    rw [if_neg hn]
    exact occ_full ks _ h
theorem occ_go : ∀ (n lo free : Nat), lo + n = l.length + 1 → free ≤ lo → (forIn (List.range' lo n) ((#[] : Array Nat), free) (StrLaws.occBody (S l) (S [c]) l.length 1)).run.fst.toList = if nxP (fun d => !(d == c)) l lo < l.length then [nxP (fun d => !(d == c)) l lo] else []
  | 0, lo, free, h, hf => by
    rw [nxP_out (by omega), if_neg (by omega)]
    rfl
  | n + 1, lo, free, h, hf => by
    rw [List.range'_succ, List.forIn_cons]
    have key : lo + (S [c]).length ≤ l.length ∧ subAt (S l) (S [c]) lo = true ↔ l[lo]? = some c := by
      have := StrLaws.subAt_one (S l) c lo
      rw [S_cps, S_len] at this
      exact this
    by_cases hc : l[lo]? = some c
    · have h2 := key.mpr hc
      have hp : ((((#[] : Array Nat), free).fst.size < 1 ∧ ((#[] : Array Nat), free).snd ≤ lo) ∧ lo + (S [c]).length ≤ l.length) ∧ subAt (S l) (S [c]) lo = true := ⟨⟨⟨by simp, hf⟩, h2.1⟩, h2.2⟩
      have e : StrLaws.occBody (S l) (S [c]) l.length 1 lo ((#[] : Array Nat), free) = pure (ForInStep.yield (#[lo], lo + (S [c]).length)) := by
        unfold StrLaws.occBody
        rw [if_pos hp]
        rfl
      rw [e]
      have hlt := (List.getElem?_eq_some_iff.mp hc).1
      rw [nxP_hit hc (by simp), if_pos hlt]
      show ((forIn (List.range' (lo + 1) n) ((#[lo] : Array Nat), lo + (S [c]).length) (StrLaws.occBody (S l) (S [c]) l.length 1)).run.fst).toList = _
      rw [occ_full _ _ rfl]
    · have hn : ¬ (((((#[] : Array Nat), free).fst.size < 1 ∧ ((#[] : Array Nat), free).snd ≤ lo) ∧ lo + (S [c]).length ≤ l.length) ∧ subAt (S l) (S [c]) lo = true) := fun h => hc (key.mp ⟨h.1.2, h.2⟩)
      have e : StrLaws.occBody (S l) (S [c]) l.length 1 lo ((#[] : Array Nat), free) = pure (ForInStep.yield ((#[] : Array Nat), free)) := by
        unfold StrLaws.occBody
        rw [if_neg hn]
      rw [e]
      show ((forIn (List.range' (lo + 1) n) ((#[] : Array Nat), free) (StrLaws.occBody (S l) (S [c]) l.length 1)).run.fst).toList = _
      rw [occ_go n (lo + 1) free (by omega) (by omega)]
      cases e0 : l[lo]? with
      | none =>
        have := List.getElem?_eq_none_iff.mp e0
        rw [nxP_out (by omega), nxP_out (by omega), if_neg (by omega), if_neg (by omega)]
      | some d =>
        rw [nxP_step (lo := lo) e0 (by simp; intro q; rw [q] at e0; exact hc e0)]
theorem find3_S {i : Int} (h0 : 0 ≤ i) (h1 : i ≤ l.length) : Txt.find3 (S l) (S [c]) i = if nxP (fun d => !(d == c)) l i.toNat < l.length then (nxP (fun d => !(d == c)) l i.toNat : Int) else -1 := by
  unfold Txt.find3
  have e : fromIndex (S l).length i = i.toNat := by
    unfold fromIndex
    rw [if_neg (by omega)]
    omega
  rw [e, S_len, StrLaws.occ_eq, occ_go (l.length + 1 - i.toNat) i.toNat i.toNat (by omega) (Nat.le_refl _)]
  by_cases h : nxP (fun d => !(d == c)) l i.toNat < l.length
  · simp only [if_pos h]
  · simp only [if_neg h]
/-! ### what is stripped -/
theorem lstrip_S {cs : List Nat} : Txt.lstripChars (S l) (S cs) = S (l.drop (nxP (fun d => cs.contains d) l 0)) := by
  have e : Txt.lstripChars (S l) (S cs) = stripped (S cs).cps.contains true false (S l) := by
    unfold Txt.lstripChars Txt.stripBy
    split
    · rename_i h
      simp only [stripSame, Bool.and_eq_true, beq_iff_eq] at h
      show S l = strSub (S l) (stripLo _ true (S l)) (stripHi _ false (S l) _)
      rw [h.2, h.1]
      unfold strSub S Str.length
      simp
    · rfl
  rw [e]
  unfold stripped stripHi stripLo strSub nxP
  rw [if_pos rfl, if_neg (by simp), S_cps, S_len]
  have hg : (S cs).cps.contains = fun d => cs.contains d := by
    funext d
    unfold S
    simp
  rw [hg]
  unfold S
  simp
  exact List.take_of_length_le (by simp)
theorem strip_S {cs : List Nat} : (Txt.stripChars (S l) (S cs) = S []) ↔ l.all (fun d => cs.contains d) = true := by
  have e : Txt.stripChars (S l) (S cs) = stripped (S cs).cps.contains true true (S l) := by
    unfold Txt.stripChars Txt.stripBy
    split
    · rename_i h
      simp only [stripSame, Bool.and_eq_true, beq_iff_eq] at h
      show S l = strSub (S l) (stripLo _ true (S l)) (stripHi _ true (S l) _)
      rw [h.2, h.1]
      unfold strSub S Str.length
      simp
    · rfl
  have hg : (S cs).cps.contains = fun d => cs.contains d := by
    funext d
    unfold S
    simp
  rw [e, ← nxP_all]
  unfold stripped stripHi stripLo strSub
  rw [if_pos rfl, if_pos rfl, S_cps, S_len, hg]
  have hn : (l.takeWhile fun d => cs.contains d).length = nxP (fun d => cs.contains d) l 0 := by unfold nxP; simp
  rw [hn]
  generalize hk : nxP (fun d => cs.contains d) l 0 = k
  have hle : k ≤ l.length := by rw [← hk]; exact nxP_le (by omega)
  constructor
  · intro h
    refine Classical.byContradiction fun hne => ?_
    have hlt : k < l.length := by omega
    have hf : cs.contains l[k] = false := by
      have h1 : l.drop k = l[k] :: l.drop (k + 1) := List.drop_eq_getElem_cons hlt
      have h2 : nxP (fun d => cs.contains d) l k = k := by
        have h3 := nxP_drop (p := fun d => cs.contains d) (l := l) (k := k)
        refine Classical.byContradiction fun h4 => ?_
        cases e5 : cs.contains l[k] with
        | false => exact h4 (nxP_hit (d := l[k]) (List.getElem?_eq_getElem hlt) e5)
        | true =>
          have h6 : l.takeWhile (fun d => cs.contains d) = l.take k := by
            have := List.takeWhile_prefix (l := l) (fun d => cs.contains d)
            rw [List.prefix_iff_eq_take, hn, hk] at this
            exact this
          have h7 : k + 1 ≤ (l.takeWhile fun d => cs.contains d).length := by
            have hall : ∀ d ∈ l.take (k + 1), cs.contains d = true := by
              intro d hd
              rw [List.take_succ_eq_append_getElem hlt] at hd
              rcases List.mem_append.mp hd with h | h
              · rw [← h6] at h
                exact tw_mem (p := fun d => cs.contains d) h
              · rw [List.mem_singleton.mp h]; exact e5
            have : l.takeWhile (fun d => cs.contains d) = (l.take (k + 1)) ++ (l.drop (k + 1)).takeWhile fun d => cs.contains d := by
              conv => lhs; rw [← List.take_append_drop (k + 1) l]
              rw [List.takeWhile_append_of_pos hall]
            rw [this]
            simp
            omega
          omega
      cases e5 : cs.contains l[k] with
      | false => rfl
      | true =>
        rw [nxP_step (p := fun d => cs.contains d) (d := l[k]) (List.getElem?_eq_getElem hlt) e5] at h2
        have := nxP_ge (p := fun d => cs.contains d) (l := l) (lo := k + 1)
        omega
    have hr : ((l.drop k).reverse.takeWhile fun d => cs.contains d).length < (l.drop k).length := by
      have hle2 := tw_le (p := fun d => cs.contains d) (l := (l.drop k).reverse)
      rw [List.length_reverse] at hle2
      refine Nat.lt_of_le_of_ne hle2 fun he => ?_
      have : (l.drop k).reverse.takeWhile (fun d => cs.contains d) = (l.drop k).reverse := (List.takeWhile_prefix (l := (l.drop k).reverse) (fun d => cs.contains d)).eq_of_length (by rw [he, List.length_reverse])
      have hm : l[k] ∈ (l.drop k).reverse.takeWhile fun d => cs.contains d := by
        rw [this, List.mem_reverse, List.drop_eq_getElem_cons hlt]
        exact List.mem_cons_self
      have := tw_mem (p := fun d => cs.contains d) hm
      rw [hf] at this
      cases this
    have hs := congrArg (fun x : Str => x.cps.size) h
    simp [S] at hs
    simp at hr
    omega
  · intro h
    have : ∀ j, (S l).cps.extract k j = #[] := by
      intro j
      unfold S
      simp [h]
    rw [this]
    rfl
end
end Sh

set_option Elab.async false
set_option linter.all false
set_option maxRecDepth 100000
set_option maxHeartbeats 2000000
namespace Sh
open PySem L2 PyProof.Rows
section
variable {A : AH} {kv : Kr AV} {ℓ : LSt}
/-! ### in of written dicts; the set of a list, sorted -/
theorem inD_W {z n : Str} {kvs : List (Key × AV)} (h : kvs.all strK = true) : cInD (.str z) (.gd n kvs) A = .ok (.bl (valA kvs (.inr z)).isSome) A := by
  show (if kvs.all strK then Res.ok (AV.bl (valA kvs (.inr z)).isSome) A else .bad) = _
  rw [if_pos h]
theorem notInD_W {z n : Str} {kvs : List (Key × AV)} (h : kvs.all strK = true) : cNotInD (.str z) (.gd n kvs) A = .ok (.bl (!(valA kvs (.inr z)).isSome)) A := by
  show (if kvs.all strK then Res.ok (AV.bl (!(valA kvs (.inr z)).isSome)) A else .bad) = _
  rw [if_pos h]
theorem bLen_gd {n : Str} {kvs : List (Key × AV)} (h : kvs.all strK = true) (h2 : kvs.length ≤ 16777216) : bLen [.gd n kvs] A = .ok (.int kvs.length) A := by
  show (if kvs.all strK && decide (kvs.length ≤ sizeLine) then Res.ok (AV.int kvs.length) A else .bad) = _
  rw [if_pos (by rw [h]; simpa using h2)]
def sortSetR (a : AV) (A : AH) : Res AV := match (sq? a A).bind intsA with
  | some ns => if ns.length < 64 then .ok (.ref A.length) (A ++ [.lst ((sortU ns).map AV.int)]) else .bad
  | none => .bad
@[simp ↓] theorem eSortSet_W {f : EF} : @Res.W AV (eSortSet f ℓ A) kv = @Res.W AV (f ℓ A) ⟨fun a A => @Res.W AV (sortSetR a A) kv, kv.X⟩ := bind_W
theorem intsA_map : ∀ {ns : List Int}, intsA (ns.map AV.int) = some ns
  | [] => rfl
  | n :: ns => by
    show (intsA (ns.map AV.int)).map (n :: ·) = _
    rw [intsA_map]
    rfl
theorem sortSet_ok {n : Nat} {ns : List Int} (h : A.lst? n = some (ns.map AV.int)) (hl : ns.length < 64) : sortSetR (.ref n) A = .ok (.ref A.length) (A ++ [.lst ((sortU ns).map AV.int)]) := by
  unfold sortSetR
  have : sq? (.ref n) A = some (ns.map AV.int) := h
  rw [this, Option.bind_some, intsA_map]
  simp only
  rw [if_pos hl]
/-! ### in and == of lists of truths -/
theorem dats_bls {n : Nat} : ∀ (bs : List Bool), datsBy (dat A n) (bs.map .bl) = some (bs.map .bool)
  | [] => rfl
  | b :: bs => by
    show datsBy (dat A n) (.bl b :: bs.map .bl) = _
    exact datsBy_cons dat_bl (dats_bls bs)
theorem any_bls {x : Bool} (xs : List Bool) : ((xs.map PyData.bool).any fun y => PyData.eqv y (.bool x)) = decide (x ∈ xs) := by
  induction xs with
  | nil => rfl
  | cons y ys ih =>
    rw [List.map_cons, List.any_cons, ih, eqv_bl]
    cases x <;> cases y <;> simp
theorem has_lst_bls {x : Bool} {r : Nat} {bs : List Bool} (hr : A.lst? r = some (bs.map .bl)) : hasIn (.bl x) (.ref r) A = some (decide (x ∈ bs)) := by
  show (match dat A 12 (.bl x), dat A 12 (.ref r) with | some d, some e => inD d e | _, _ => _) = _
  rw [dat_bl, dat_lst hr (dats_bls bs)]
  show some _ = _
  rw [any_bls]
theorem in_lst_bls {x : Bool} {r : Nat} {bs : List Bool} (hr : A.lst? r = some (bs.map .bl)) : cIn (.bl x) (.ref r) A = .ok (.bl (decide (x ∈ bs))) A := by
  unfold cIn; rw [has_lst_bls hr]
theorem notin_lst_bls {x : Bool} {r : Nat} {bs : List Bool} (hr : A.lst? r = some (bs.map .bl)) : cNotIn (.bl x) (.ref r) A = .ok (.bl (!decide (x ∈ bs))) A := by
  unfold cNotIn; rw [has_lst_bls hr]
/-! ### loops -/
theorem forWt {r : Nat} {xs : List AV} {tg : GF1} {ℓ : LSt} {K : Ks} {body : SF} (I : Nat → LSt → AH → Prop) (h0 : I 0 ℓ A) (hI : ∀ k ℓ A, I k ℓ A → A.lst? r = some xs)
    (hs : ∀ k x ℓ A, xs[k]? = some x → I k ℓ A → ∃ ℓ1, tg x ℓ A = some ℓ1 ∧ @SRes.W (body ℓ1 A) ⟨I (k + 1), K.V, K.X, K.N, I (k + 1)⟩)
    (hN : ∀ ℓ A, I xs.length ℓ A → K.N ℓ A) : @SRes.W (forLoop (wLst r xs) tg body (wLst r xs).n 0 ℓ A) K :=
  forW I (n := xs.length) (fun k ℓ A hk h => let ⟨ℓ1, e1, e2⟩ := hs k xs[k] ℓ A (List.getElem?_eq_getElem hk) h; ⟨xs[k], ℓ1, by show (A.lst? r).bind _ = _; rw [hI k ℓ A h]; exact List.getElem?_eq_getElem hk, e1, e2⟩) (fun ℓ A h => ⟨by show (match A.lst? r with | some ys => ys.length == xs.length | none => false) = true; rw [hI _ ℓ A h]; simp, hN ℓ A h⟩) _ _ _ _ (by show 0 + xs.length = _; omega) h0
end
end Sh

set_option Elab.async false
set_option linter.all false
set_option maxRecDepth 100000
set_option maxHeartbeats 4000000
/-! own operators, classes in values, slices that are stored: what holds of a result -/
namespace Sh
open PySem L2 PyProof.Rows
section
variable {A : AH} {ℓ : LSt} {kv : Kr AV} {K : Ks}
theorem ownG_W {tb : Str → Option GF} {n : Nat} {c : Str} {fs : List (Str × AV)} {as : List AV} {g : GF} (h : A.ins? n = some (c, fs)) (ht : tb c = some g) : @Res.W AV (ownG tb (.ref n) as A) kv = @Res.W AV (gCall g (.ref n :: as) A) kv := by
  unfold ownG
  simp only [h, ht]
theorem ownIx_W {tb : Str → Option GF} {n : Nat} {c : Str} {fs : List (Str × AV)} {b : AV} {g : GF} (h : A.ins? n = some (c, fs)) (ht : tb c = some g) : @Res.W AV (ownIx tb (.ref n) b A) kv = @Res.W AV (gCall g [.ref n, b] A) kv := ownG_W h ht
@[simp] theorem asBool_bl {k : Bool} : asBool (.bl k) A = .ok (.bl k) A := (rfl)
theorem ownEq_W {tb : Str → Option GF} {n m : Nat} {c : Str} {fs gs : List (Str × AV)} {g : GF} (h : A.ins? n = some (c, fs)) (h2 : A.ins? m = some (c, gs)) (ht : tb c = some g) : @Res.W AV (ownEq tb (.ref n) (.ref m) A) kv = @Res.W AV (gCall g [.ref n, .ref m] A) ⟨fun v A => @Res.W AV (asBool v A) kv, kv.X⟩ := by
  unfold ownEq
  simp only [h, h2, if_true]
  rw [bind_W, ownG_W h ht]
@[simp ↓] theorem eOwnLen_W {tb : Str → Option GF} {f : AF} : @Res.W AV (eOwnLen tb f ℓ A) kv = @Res.W (List AV) (f ℓ A) ⟨fun as A => @Res.W AV (ownLen tb as A) kv, kv.X⟩ := bind_W
theorem ownLen_W {tb : Str → Option GF} {n : Nat} {c : Str} {fs : List (Str × AV)} {g : GF} (h : A.ins? n = some (c, fs)) (ht : tb c = some g) : @Res.W AV (ownLen tb [.ref n] A) kv = @Res.W AV (gCall g [.ref n] A) ⟨fun v A => @Res.W AV (asLen v A) kv, kv.X⟩ := by
  unfold ownLen
  simp only
  rw [bind_W, ownG_W h ht]
theorem asLen_nat {k : Nat} (h : k ≤ sizeLine) : asLen (.int (k : Int)) A = .ok (.int (k : Int)) A := by
  unfold asLen
  simp only
  rw [if_pos ⟨by omega, by omega⟩]
@[simp ↓] theorem sOwnSet_W {tb : Str → Option GF} {fv fo fi : EF} : @SRes.W (sOwnSet tb fv fo fi ℓ A) K = @Res.W AV (fv ℓ A) ⟨fun v A => @Res.W AV (fo ℓ A) ⟨fun o A => @Res.W AV (fi ℓ A) ⟨fun i A => @Res.W AV (ownG tb o [i, v] A) ⟨fun _ A => K.N ℓ A, fun c fs A => K.X c fs ℓ A⟩, fun c fs A => K.X c fs ℓ A⟩, fun c fs A => K.X c fs ℓ A⟩, fun c fs A => K.X c fs ℓ A⟩ := by
  show @SRes.W ((fv ℓ A).toS ℓ _) K = _
  rw [toS_W]
  cases fv ℓ A with
  | ok v A =>
    simp only [Wr_ok, toS_W]
    cases fo ℓ A with
    | ok o A =>
      simp only [Wr_ok, toS_W]
      cases fi ℓ A with
      | ok i A => exact toS_W
      | _ => rfl
    | _ => rfl
  | _ => rfl
def setSlS (o v l h : AV) (ℓ : LSt) (A : AH) : SRes := match opSetSl o v l h A with | some A' => .nx ℓ A' | none => .bad
@[simp ↓] theorem sSetSl_W {fv fo fl fh : EF} : @SRes.W (sSetSl fv fo fl fh ℓ A) K = @Res.W AV (fv ℓ A) ⟨fun v A => @Res.W AV (fo ℓ A) ⟨fun o A => @Res.W AV (fl ℓ A) ⟨fun l A => @Res.W AV (fh ℓ A) ⟨fun h A => @SRes.W (setSlS o v l h ℓ A) K, fun c fs A => K.X c fs ℓ A⟩, fun c fs A => K.X c fs ℓ A⟩, fun c fs A => K.X c fs ℓ A⟩, fun c fs A => K.X c fs ℓ A⟩ := by
  show @SRes.W ((fv ℓ A).toS ℓ _) K = _
  rw [toS_W]
  cases fv ℓ A with
  | ok v A =>
    simp only [Wr_ok, toS_W]
    cases fo ℓ A with
    | ok o A =>
      simp only [Wr_ok, toS_W]
      cases fl ℓ A with
      | ok i A =>
        simp only [Wr_ok, toS_W]
        cases fh ℓ A with
        | ok i A => rfl
        | _ => rfl
      | _ => rfl
    | _ => rfl
  | _ => rfl
theorem setSl_W {n m : Nat} {i j : Int} {xs ys : List AV} (h1 : A.lst? n = some xs) (h2 : A.lst? m = some ys) (hne : n ≠ m) (h0 : 0 ≤ i) (hij : i ≤ j) (hj : j ≤ (xs.length : Int)) (hz : xs.length + ys.length ≤ sizeLine) :
    @SRes.W (setSlS (.ref n) (.ref m) (.int i) (.int j) ℓ A) K = K.N ℓ (A.set n (.lst (xs.take i.toNat ++ ys ++ xs.drop j.toNat))) := by
  unfold setSlS opSetSl
  simp only [h1, h2]
  rw [if_pos ⟨hne, h0, hij, hj, hz⟩]
  rfl
def makeVR (tb : Str → Option GF) (fa : AH → Res (List AV)) (v : AV) (A : AH) : Res AV := match v with
  | .cls c => (match tb c with | some g => (fa A).bind fun as A => (gCall g (.ref A.length :: as) (A ++ [.ins c []])).bind fun v A' => asNon A.length v A' | none => .bad)
  | _ => .bad
@[simp ↓] theorem eMakeV_W {tb : Str → Option GF} {fc : EF} {f : AF} : @Res.W AV (eMakeV tb fc f ℓ A) kv = @Res.W AV (fc ℓ A) ⟨fun v A => @Res.W AV (makeVR tb (f ℓ) v A) kv, kv.X⟩ := bind_W
theorem makeV_W {tb : Str → Option GF} {c : Str} {g : GF} {fa : AH → Res (List AV)} (ht : tb c = some g) : @Res.W AV (makeVR tb fa (.cls c) A) kv = @Res.W (List AV) (fa A) ⟨fun as A => @Res.W AV (gCall g (.ref A.length :: as) (A ++ [.ins c []])) ⟨fun v A' => @Res.W AV (asNon A.length v A') kv, kv.X⟩, kv.X⟩ := by
  unfold makeVR
  simp only [ht]
  rw [bind_W]
  cases fa A with
  | ok as A => exact bind_W
  | _ => rfl
def cmR (tb : Str → Option GF) (fa : AH → Res (List AV)) (v : AV) (A : AH) : Res AV := match v with
  | .cls c => (match tb c with | some g => (fa A).bind fun as A => gCall g (.cls c :: as) A | none => .bad)
  | _ => .bad
@[simp ↓] theorem eCMeth_W {tb : Str → Option GF} {fo : EF} {f : AF} : @Res.W AV (eCMeth tb fo f ℓ A) kv = @Res.W AV (fo ℓ A) ⟨fun v A => @Res.W AV (cmR tb (f ℓ) v A) kv, kv.X⟩ := bind_W
theorem cm_W {tb : Str → Option GF} {c : Str} {g : GF} {fa : AH → Res (List AV)} (ht : tb c = some g) : @Res.W AV (cmR tb fa (.cls c) A) kv = @Res.W (List AV) (fa A) ⟨fun as A => @Res.W AV (gCall g (.cls c :: as) A) kv, kv.X⟩ := by
  unfold cmR
  simp only [ht]
  exact bind_W
theorem ownList_ok {itf : Str → Option Str} {tb : Str → Option GF} {n m k : Nat} {c F : Str} {fs : List (Str × AV)} {g : GF} {xs : List AV} (h : A.ins? n = some (c, fs)) (hi : itf c = some F) (ht : tb c = some g) (hf : fs.lookup F = some (.ref m)) (hm : A.lst? m = some xs) (hg : gCall g [.ref n] A = .ok (.int (k : Int)) A) (hk : k ≤ sizeLine) (hl : xs.length ≤ sizeLine) :
    ownList itf tb [.ref n] A = .ok (.ref A.length) (A ++ [.lst xs]) := by
  unfold ownList
  simp only [h, hi, ht, hf, hm, hg]
  rw [if_pos ⟨by omega, by omega, hl⟩]
theorem isC_ok {n : Nat} {c : Str} {fs : List (Str × AV)} (h : A.ins? n = some (c, fs)) : bIsi [.ref n, .cls c] A = .ok (.bl true) A := by
  unfold bIsi
  simp only [ins_at h, if_true]
end
end Sh

set_option Elab.async false
set_option linter.all false
set_option maxRecDepth 100000
set_option maxHeartbeats 4000000
/-! own `in`, static methods, list(o), isinstance(e, (A, ..)), repr: what holds of a result -/
namespace Sh
open PySem L2 PyProof.Rows
section
variable {A : AH} {ℓ : LSt} {kv : Kr AV} {K : Ks}
theorem ownIn_W {tb : Str → Option GF} {n : Nat} {c : Str} {fs : List (Str × AV)} {a : AV} {g : GF} (h : A.ins? n = some (c, fs)) (ht : tb c = some g) : @Res.W AV (ownIn tb a (.ref n) A) kv = @Res.W AV (gCall g [.ref n, a] A) ⟨fun v A => @Res.W AV (asBool v A) kv, kv.X⟩ := by
  unfold ownIn
  rw [bind_W, ownG_W h ht]
def smR (tb : Str → Option GF) (fa : AH → Res (List AV)) (v : AV) (A : AH) : Res AV := match v with
  | .cls c => (match tb c with | some g => (fa A).bind fun as A => gCall g as A | none => .bad)
  | _ => .bad
@[simp ↓] theorem eSMeth_W {tb : Str → Option GF} {fo : EF} {f : AF} : @Res.W AV (eSMeth tb fo f ℓ A) kv = @Res.W AV (fo ℓ A) ⟨fun v A => @Res.W AV (smR tb (f ℓ) v A) kv, kv.X⟩ := bind_W
theorem sm_W {tb : Str → Option GF} {c : Str} {g : GF} {fa : AH → Res (List AV)} (ht : tb c = some g) : @Res.W AV (smR tb fa (.cls c) A) kv = @Res.W (List AV) (fa A) ⟨fun as A => @Res.W AV (gCall g as A) kv, kv.X⟩ := by
  unfold smR
  simp only [ht]
  exact bind_W
def isxTR (tb : List ((Str × Str) × Bool)) (c : Str) (ms : List Str) (A : AH) : Res AV := match isxAll tb c ms with | some b => .ok (.bl b) A | none => .bad
@[simp ↓] theorem eIsxT_W {tb : List ((Str × Str) × Bool)} {c : Str} {ms : List Str} : @Res.W AV (eIsxT tb c ms ℓ A) kv = @Res.W AV (isxTR tb c ms A) kv := (rfl)
theorem isxTR_ok {tb : List ((Str × Str) × Bool)} {c : Str} {ms : List Str} {b : Bool} (h : isxAll tb c ms = some b) : isxTR tb c ms A = .ok (.bl b) A := by
  unfold isxTR
  rw [h]
theorem ownListN_tup {itf : Str → Option Str} {n : Nat} {c F : Str} {fs : List (Str × AV)} {xs : List AV} (h : A.ins? n = some (c, fs)) (hi : itf c = some F) (hf : fs.lookup F = some (.tup xs)) : ownListN itf [.ref n] A = .ok (.ref A.length) (A ++ [.lst xs]) := by
  unfold ownListN
  simp only [h, hi, hf]
theorem ownListN_lst {itf : Str → Option Str} {n m : Nat} {c F : Str} {fs : List (Str × AV)} {xs : List AV} (h : A.ins? n = some (c, fs)) (hi : itf c = some F) (hf : fs.lookup F = some (.ref m)) (hm : A.lst? m = some xs) : ownListN itf [.ref n] A = .ok (.ref A.length) (A ++ [.lst xs]) := by
  unfold ownListN
  simp only [h, hi, hf, hm]
theorem bRepr_ok {v : AV} {d : PyData} (h : dataP 8 A v = some d) (h1 : d.showable = true) (h2 : d.shown.length ≤ sizeLine) (h3 : d.depth ≤ 16) : bRepr [v] A = .ok (.str d.shown) A := by
  unfold bRepr
  simp only [h]
  rw [if_pos ⟨h1, h2, h3⟩]
end
end Sh

set_option Elab.async false
set_option linter.all false
set_option maxRecDepth 100000
set_option maxHeartbeats 4000000
namespace K20
open PySem L2 PyProof.Rows Sh
abbrev cLt : AV → AV → AH → Res AV := cmpI fun i j => decide (i < j)
abbrev cLe : AV → AV → AH → Res AV := cmpI fun i j => decide (i ≤ j)
abbrev cGt : AV → AV → AH → Res AV := cmpI fun i j => decide (j < i)
abbrev cGe : AV → AV → AH → Res AV := cmpI fun i j => decide (j ≤ i)
def cat : List ((Str × Str) × Bool) := [(("BadText", "MintError"), true)]
def isx : List ((Str × Str) × Bool) := [(("BadText", "BadBlock"), false), (("BadText", "BadText"), true), (("BadText", "NoEnd"), false), (("BadText", "ValueError"), true)]
@[simp] theorem isx_BadText_BadBlock {A : AH} : isxR isx "BadText" "BadBlock" A = .ok (.bl false) A := (rfl)
@[simp] theorem isx_BadText_BadText {A : AH} : isxR isx "BadText" "BadText" A = .ok (.bl true) A := (rfl)
@[simp] theorem isx_BadText_NoEnd {A : AH} : isxR isx "BadText" "NoEnd" A = .ok (.bl false) A := (rfl)
@[simp] theorem isx_BadText_ValueError {A : AH} : isxR isx "BadText" "ValueError" A = .ok (.bl true) A := (rfl)
@[simp] theorem ct_BadText_MintError {A : AH} {i : Nat} {xs : List (Str × AV)} {ℓ : LSt} {fs : Str → List (Str × AV) → SF} {K : Ks} (hi : i < ℓ.length) : @Caught "BadText" xs ℓ A i (fun c => cat.lookup (c, ("MintError" : Str))) fs K = @SRes.W (fs "BadText" xs (ℓ.set i none) A) ⟨fun ℓ2 A2 => K.N (ℓ2.set i none) A2, K.V, fun _ _ _ _ => False, fun ℓ2 A2 => K.B (ℓ2.set i none) A2, fun ℓ2 A2 => K.C (ℓ2.set i none) A2⟩ := caught_W (by rfl) hi
def c_MOST_LINES : AV := .int 200
def c_MOST_SIGNS : AV := .int 200
def c_SIGNS : AV := .str " !\"#$&'()*+,-./0123456789:;<=>?\x40ABCDEFGHIJKLMNOPQRSTUVWXYZ[\\]^_`abcdefghijklmnopqrstuvwxyz{|}~"
def cons : List (Str × AV) := [("MOST_LINES", c_MOST_LINES), ("MOST_SIGNS", c_MOST_SIGNS), ("SIGNS", c_SIGNS)]
def ts : List (Str × List Str) := []
def noat : List (Str × Str) := [("Source", "kept_lines"), ("Source", "line"), ("Source", "column")]
def mkc : List Str := ["Source"]
def ms_0 : List ((Str × Str) × GF) := []
def cm_0 : List ((Str × Str) × GF) := []
def it_0 : List (Str × Str) := []
def sm_0 : List ((Str × Str) × GF) := []
def itn_0 : List (Str × Str) := []
def it_1 : List (Str × Str) := it_0
def itn_1 : List (Str × Str) := itn_0
def sm_1 : List ((Str × Str) × GF) := sm_0
@[irreducible] def sh_is_line : SF := (sRet (eAndF (eCB bIsi (aCons (eVar 0) (aCons (eC (.ty "str")) aNil))) (eAndF (eOp cLe (eCB bLen (aCons (eVar 0) aNil)) (eC c_MOST_SIGNS)) (eOp cEq (eBM .str mLstrip (eVar 0) (aCons (eC c_SIGNS) aNil)) (eC (.str ""))))))
def fn_is_line : Fn := runFn sh_is_line 1
def g_is_line : GF := ⟨fn_is_line, 1, [], false⟩
def ms_1 : List ((Str × Str) × GF) := ms_0
def cm_1 : List ((Str × Str) × GF) := cm_0
@[simp] theorem g_is_line_np : g_is_line.np = 1 := (rfl)
@[simp] theorem g_is_line_rest : g_is_line.rest = false := (rfl)
@[simp] theorem g_is_line_dv : g_is_line.dv = [] := (rfl)
@[simp] theorem g_is_line_fn : g_is_line.fn = fn_is_line := (rfl)
def it_2 : List (Str × Str) := it_1
def itn_2 : List (Str × Str) := itn_1
def sm_2 : List ((Str × Str) × GF) := sm_1
@[irreducible] def sh__law_signs : SF := (sSeq (sSet 0 (eC (.str " !\"#$&'()*+,-./0123456789:;<=>?\x40ABCDEFGHIJKLMNOPQRSTUVWXYZ[\\]^_`")))
  (sRet (eOp opAdd (eVar 0) (eC (.str "abcdefghijklmnopqrstuvwxyz{|}~")))))
def fn__law_signs : Fn := runFn sh__law_signs 1
def g__law_signs : GF := ⟨fn__law_signs, 0, [], false⟩
def ms_2 : List ((Str × Str) × GF) := ms_1
def cm_2 : List ((Str × Str) × GF) := cm_1
@[simp] theorem g__law_signs_np : g__law_signs.np = 0 := (rfl)
@[simp] theorem g__law_signs_rest : g__law_signs.rest = false := (rfl)
@[simp] theorem g__law_signs_dv : g__law_signs.dv = [] := (rfl)
@[simp] theorem g__law_signs_fn : g__law_signs.fn = fn__law_signs := (rfl)
def it_3 : List (Str × Str) := it_2
def itn_3 : List (Str × Str) := itn_2
def sm_3 : List ((Str × Str) × GF) := sm_2
@[irreducible] def sh__law_good : SF := (sSeq (sIf (tOrF (tNotF (tTruF (eCB bIsi (aCons (eVar 0) (aCons (eC (.ty "str")) aNil))))) (tOfE (eOp cGt (eCB bLen (aCons (eVar 0) aNil)) (eC (.int 200)))))
  (sRet (eC (.bl false)))
  sNext)
  (sSeq (sSet 1 (eCall g__law_signs aNil))
  (sSeq (sFor (iVal (eVar 0)) (gNm 2)
  (sIf (tOfE (eOp cNotIn (eVar 2) (eVar 1)))
  (sRet (eC (.bl false)))
  sNext))
  (sRet (eC (.bl true))))))
def fn__law_good : Fn := runFn sh__law_good 3
def g__law_good : GF := ⟨fn__law_good, 1, [], false⟩
def ms_3 : List ((Str × Str) × GF) := ms_2
def cm_3 : List ((Str × Str) × GF) := cm_2
@[simp] theorem g__law_good_np : g__law_good.np = 1 := (rfl)
@[simp] theorem g__law_good_rest : g__law_good.rest = false := (rfl)
@[simp] theorem g__law_good_dv : g__law_good.dv = [] := (rfl)
@[simp] theorem g__law_good_fn : g__law_good.fn = fn__law_good := (rfl)
def it_4 : List (Str × Str) := it_3
def itn_4 : List (Str × Str) := itn_3
def sm_4 : List ((Str × Str) × GF) := sm_3
@[irreducible] def sh__law_each : SF := (sSeq (sFor (iVal (eVar 0)) (gNm 1)
  (sSeq (sSet 2 (eCall g_is_line (aCons (eVar 1) aNil)))
  (sIf (tOrF (tNotF (tTruF (eCB bIsi (aCons (eVar 2) (aCons (eC (.ty "bool")) aNil))))) (tOfE (eOp cNe (eVar 2) (eCall g__law_good (aCons (eVar 1) aNil)))))
  (sRet (eC (.bl false)))
  sNext)))
  (sRet (eC (.bl true))))
def fn__law_each : Fn := runFn sh__law_each 3
def g__law_each : GF := ⟨fn__law_each, 1, [], false⟩
def ms_4 : List ((Str × Str) × GF) := ms_3
def cm_4 : List ((Str × Str) × GF) := cm_3
@[simp] theorem g__law_each_np : g__law_each.np = 1 := (rfl)
@[simp] theorem g__law_each_rest : g__law_each.rest = false := (rfl)
@[simp] theorem g__law_each_dv : g__law_each.dv = [] := (rfl)
@[simp] theorem g__law_each_fn : g__law_each.fn = fn__law_each := (rfl)
def it_5 : List (Str × Str) := it_4
def itn_5 : List (Str × Str) := itn_4
def sm_5 : List ((Str × Str) × GF) := sm_4
@[irreducible] def sh__law_due : SF := (sSeq (sIf (tOrF (tNotF (tTruF (eCB bIsi (aCons (eVar 0) (aCons (eTup (aCons (eC (.ty "list")) (aCons (eC (.ty "tuple")) aNil))) aNil))))) (tOfE (eOp cGt (eCB bLen (aCons (eVar 0) aNil)) (eC (.int 200)))))
  (sRet (eTup (aCons (eC (.str "BadText")) (aCons (eUn uNeg (eC (.int 1))) aNil))))
  sNext)
  (sSeq (sFor (iRange (aCons (eCB bLen (aCons (eVar 0) aNil)) aNil)) (gNm 1)
  (sIf (tNotF (tTruF (eCall g__law_good (aCons (eOp opIx (eVar 0) (eVar 1)) aNil))))
  (sRet (eTup (aCons (eC (.str "BadText")) (aCons (eVar 1) aNil))))
  sNext))
  (sRet (eTup (aCons (eC (.str "told")) (aCons (eCB bTuple (aCons (eVar 0) aNil)) aNil))))))
def fn__law_due : Fn := runFn sh__law_due 2
def g__law_due : GF := ⟨fn__law_due, 1, [], false⟩
def ms_5 : List ((Str × Str) × GF) := ms_4
def cm_5 : List ((Str × Str) × GF) := cm_4
@[simp] theorem g__law_due_np : g__law_due.np = 1 := (rfl)
@[simp] theorem g__law_due_rest : g__law_due.rest = false := (rfl)
@[simp] theorem g__law_due_dv : g__law_due.dv = [] := (rfl)
@[simp] theorem g__law_due_fn : g__law_due.fn = fn__law_due := (rfl)
def it_6 : List (Str × Str) := it_5
def itn_6 : List (Str × Str) := itn_5
def sm_6 : List ((Str × Str) × GF) := sm_5
@[irreducible] def sh__law_pick : SF := (sSeq (sSub (eOp opAdd (eOp opIx (eVar 0) (eC (.str "count"))) (eC (.int 1))) (eVar 0) (eC (.str "count")))
  (sSeq (sIf (tOfE (eOp cGt (eOp opIx (eVar 0) (eC (.str "rest"))) (eC (.int 0))))
  (sSeq (sSet 3 (eOp opMod (eCB bInt (aCons (eOp opIx (eVar 0) (eC (.str "rest"))) aNil)) (eVar 1)))
  (sSeq (sSub (eOp opFdiv (eOp opIx (eVar 0) (eC (.str "rest"))) (eVar 1)) (eVar 0) (eC (.str "rest")))
  (sRet (eVar 3))))
  sNext)
  (sSeq (sIf (tOfE (eOp cLt (eOp opIx (eVar 0) (eC (.str "at"))) (eCB bLen (aCons (eOp opIx (eVar 0) (eC (.str "cells"))) aNil))))
  (sSeq (sSet 4 (eOp opIx (eOp opIx (eVar 0) (eC (.str "cells"))) (eOp opIx (eVar 0) (eC (.str "at")))))
  (sSeq (sSub (eOp opAdd (eOp opIx (eVar 0) (eC (.str "at"))) (eC (.int 1))) (eVar 0) (eC (.str "at")))
  (sSeq (sIf (tOfE (eOp cGe (eVar 4) (eC (.int 1000000000000000000))))
  (sSeq (sSub (eOp opFdiv (eVar 4) (eVar 1)) (eVar 0) (eC (.str "rest")))
  (sRet (eOp opMod (eCB bInt (aCons (eVar 4) aNil)) (eVar 1))))
  sNext)
  (sSub (eOp opMod (eCB bInt (aCons (eOp opAdd (eOp opAdd (eOp opIx (eVar 0) (eC (.str "seed"))) (eOp opMul (eVar 4) (eC (.int 7919)))) (eC (.int 104729))) aNil)) (eC (.int 2147483647))) (eVar 0) (eC (.str "seed"))))))
  sNext)
  (sSeq (sSub (eOp opMod (eCB bInt (aCons (eOp opAdd (eOp opAdd (eOp opMul (eOp opIx (eVar 0) (eC (.str "seed"))) (eC (.int 48271))) (eOp opMul (eOp opIx (eVar 0) (eC (.str "count"))) (eC (.int 69621)))) (eC (.int 11))) aNil)) (eC (.int 2147483647))) (eVar 0) (eC (.str "seed")))
  (sSeq (sSet 2 (eOp opMod (eCB bInt (aCons (eOp opAdd (eOp opMul (eOp opIx (eVar 0) (eC (.str "seed"))) (eC (.int 16807))) (eOp opMul (eOp opIx (eVar 0) (eC (.str "count"))) (eC (.int 40014)))) aNil)) (eC (.int 2147483629))))
  (sRet (eOp opMod (eCB bInt (aCons (eOp opFdiv (eVar 2) (eC (.int 97))) aNil)) (eVar 1))))))))
def fn__law_pick : Fn := runFn sh__law_pick 5
def g__law_pick : GF := ⟨fn__law_pick, 2, [], false⟩
def ms_6 : List ((Str × Str) × GF) := ms_5
def cm_6 : List ((Str × Str) × GF) := cm_5
@[simp] theorem g__law_pick_np : g__law_pick.np = 2 := (rfl)
@[simp] theorem g__law_pick_rest : g__law_pick.rest = false := (rfl)
@[simp] theorem g__law_pick_dv : g__law_pick.dv = [] := (rfl)
@[simp] theorem g__law_pick_fn : g__law_pick.fn = fnPick := by
  show fn__law_pick = _
  unfold fn__law_pick sh__law_pick
  rfl
def it_7 : List (Str × Str) := it_6
def itn_7 : List (Str × Str) := itn_6
def sm_7 : List ((Str × Str) × GF) := sm_6
@[irreducible] def sh__law_any_sign : SF := (sSeq (sIf (tOfE (eOp cEq (eCall g__law_pick (aCons (eVar 0) (aCons (eC (.int 3)) aNil))) (eC (.int 0))))
  (sRet (eC (.str " ")))
  sNext)
  (sRet (eOp opIx (eCall g__law_signs aNil) (eCall g__law_pick (aCons (eVar 0) (aCons (eC (.int 94)) aNil))))))
def fn__law_any_sign : Fn := runFn sh__law_any_sign 1
def g__law_any_sign : GF := ⟨fn__law_any_sign, 1, [], false⟩
def ms_7 : List ((Str × Str) × GF) := ms_6
def cm_7 : List ((Str × Str) × GF) := cm_6
@[simp] theorem g__law_any_sign_np : g__law_any_sign.np = 1 := (rfl)
@[simp] theorem g__law_any_sign_rest : g__law_any_sign.rest = false := (rfl)
@[simp] theorem g__law_any_sign_dv : g__law_any_sign.dv = [] := (rfl)
@[simp] theorem g__law_any_sign_fn : g__law_any_sign.fn = fn__law_any_sign := (rfl)
def it_8 : List (Str × Str) := it_7
def itn_8 : List (Str × Str) := itn_7
def sm_8 : List ((Str × Str) × GF) := sm_7
@[irreducible] def sh__law_line : SF := (sSeq (sSet 1 (eCall g__law_pick (aCons (eVar 0) (aCons (eC (.int 8)) aNil))))
  (sSeq (sIf (tOfE (eOp cEq (eVar 1) (eC (.int 0))))
  (sRet (eC (.str "")))
  sNext)
  (sSeq (sIf (tOfE (eOp cEq (eVar 1) (eC (.int 1))))
  (sRet (eOp opMul (eC (.str " ")) (eOp opIx (eLst (aCons (eC (.int 1)) (aCons (eC (.int 2)) (aCons (eC (.int 7)) (aCons (eC (.int 199)) (aCons (eC (.int 200)) aNil)))))) (eCall g__law_pick (aCons (eVar 0) (aCons (eC (.int 5)) aNil))))))
  sNext)
  (sSeq (sSet 2 (eOp opAdd (eC (.int 1)) (eCall g__law_pick (aCons (eVar 0) (aCons (eC (.int 24)) aNil)))))
  (sSeq (sIf (tOfE (eOp cLt (eVar 1) (eC (.int 4))))
  (sSet 2 (eOp opAdd (eC (.int 1)) (eCall g__law_pick (aCons (eVar 0) (aCons (eC (.int 3)) aNil)))))
  sNext)
  (sSeq (sSet 3 (eBM .str mJoin (eC (.str "")) (aCons (eLc (iRange (aCons (eVar 2) aNil)) (gNm 4) tYesF (eCall g__law_any_sign (aCons (eVar 0) aNil)) [4]) aNil)))
  (sSeq (sIf (tOfE (eOp cEq (eVar 1) (eC (.int 2))))
  (sRet (eSl (eOp opMul (eVar 3) (eC (.int 200))) oNone (oSome (eOp opSub (eC (.int 200)) (eCall g__law_pick (aCons (eVar 0) (aCons (eC (.int 3)) aNil)))))))
  sNext)
  (sRet (eVar 3)))))))))
def fn__law_line : Fn := runFn sh__law_line 5
def g__law_line : GF := ⟨fn__law_line, 1, [], false⟩
def ms_8 : List ((Str × Str) × GF) := ms_7
def cm_8 : List ((Str × Str) × GF) := cm_7
@[simp] theorem g__law_line_np : g__law_line.np = 1 := (rfl)
@[simp] theorem g__law_line_rest : g__law_line.rest = false := (rfl)
@[simp] theorem g__law_line_dv : g__law_line.dv = [] := (rfl)
@[simp] theorem g__law_line_fn : g__law_line.fn = fn__law_line := (rfl)
def it_9 : List (Str × Str) := it_8
def itn_9 : List (Str × Str) := itn_8
def sm_9 : List ((Str × Str) × GF) := sm_8
@[irreducible] def sh__law_choice : SF := (sRet (eOp opIx (eVar 1) (eCall g__law_pick (aCons (eVar 0) (aCons (eCB bLen (aCons (eVar 1) aNil)) aNil)))))
def fn__law_choice : Fn := runFn sh__law_choice 2
def g__law_choice : GF := ⟨fn__law_choice, 2, [], false⟩
def ms_9 : List ((Str × Str) × GF) := ms_8
def cm_9 : List ((Str × Str) × GF) := cm_8
@[simp] theorem g__law_choice_np : g__law_choice.np = 2 := (rfl)
@[simp] theorem g__law_choice_rest : g__law_choice.rest = false := (rfl)
@[simp] theorem g__law_choice_dv : g__law_choice.dv = [] := (rfl)
@[simp] theorem g__law_choice_fn : g__law_choice.fn = fnChoice := by
  show fn__law_choice = _
  unfold fn__law_choice sh__law_choice
  have e : g__law_pick = ⟨fnPick, 2, [], false⟩ := by
    show GF.mk g__law_pick.fn 2 [] false = _
    rw [g__law_pick_fn]
  rw [e]
  rfl
def it_10 : List (Str × Str) := it_9
def itn_10 : List (Str × Str) := itn_9
def sm_10 : List ((Str × Str) × GF) := sm_9
@[irreducible] def sh__law_odd_2 : SF := (sRet (eCall g__law_choice (aCons (eVar 0) (aCons (eOp opAdd (eVar 3) (eLst (aCons (eOp opMul (eC (.str " ")) (eC (.int 201))) (aCons (eC (.non)) (aCons (eC (.int 0)) (aCons (eC (.int 7)) (aCons (eC (.bl true)) (aCons (eLst (aCons (eVar 1) aNil)) (aCons (eTup (aCons (eVar 1) aNil)) (aCons (eDct []) (aCons (eLst aNil) aNil))))))))))) aNil))))
@[irreducible] def sh__law_odd_1 : SF := (sSeq (sSet 3 (eLst (aCons (eOp opAdd (eOp opAdd (eSl (eVar 1) oNone (oSome (eVar 2))) (eC (.str "\n"))) (eSl (eVar 1) (oSome (eVar 2)) oNone)) (aCons (eOp opAdd (eOp opAdd (eSl (eVar 1) oNone (oSome (eVar 2))) (eC (.str "	"))) (eSl (eVar 1) (oSome (eVar 2)) oNone)) (aCons (eOp opAdd (eVar 1) (eC (.str "\n"))) (aCons (eSl (eOp opAdd (eVar 1) (eOp opMul (eC (.str "q")) (eC (.int 201)))) oNone (oSome (eC (.int 201)))) aNil))))))
  sh__law_odd_2)
@[irreducible] def sh__law_odd_0 : SF := (sSeq (sSet 2 (eCall g__law_pick (aCons (eVar 0) (aCons (eOp opAdd (eCB bLen (aCons (eVar 1) aNil)) (eC (.int 1))) aNil))))
  sh__law_odd_1)
@[irreducible] def sh__law_odd : SF := sh__law_odd_0
def fn__law_odd : Fn := runFn sh__law_odd 4
def g__law_odd : GF := ⟨fn__law_odd, 2, [], false⟩
def ms_10 : List ((Str × Str) × GF) := ms_9
def cm_10 : List ((Str × Str) × GF) := cm_9
@[simp] theorem g__law_odd_np : g__law_odd.np = 2 := (rfl)
@[simp] theorem g__law_odd_rest : g__law_odd.rest = false := (rfl)
@[simp] theorem g__law_odd_dv : g__law_odd.dv = [] := (rfl)
@[simp] theorem g__law_odd_fn : g__law_odd.fn = fn__law_odd := (rfl)
def it_11 : List (Str × Str) := it_10
def itn_11 : List (Str × Str) := itn_10
def sm_11 : List ((Str × Str) × GF) := sm_10
@[irreducible] def sh__law_integer : SF := (sRet (eAndF (eCB bIsi (aCons (eVar 0) (aCons (eC (.ty "int")) aNil))) (eNotF (eCB bIsi (aCons (eVar 0) (aCons (eC (.ty "bool")) aNil))))))
def fn__law_integer : Fn := runFn sh__law_integer 1
def g__law_integer : GF := ⟨fn__law_integer, 1, [], false⟩
def ms_11 : List ((Str × Str) × GF) := ms_10
def cm_11 : List ((Str × Str) × GF) := cm_10
@[simp] theorem g__law_integer_np : g__law_integer.np = 1 := (rfl)
@[simp] theorem g__law_integer_rest : g__law_integer.rest = false := (rfl)
@[simp] theorem g__law_integer_dv : g__law_integer.dv = [] := (rfl)
@[simp] theorem g__law_integer_fn : g__law_integer.fn = fn__law_integer := (rfl)
def it_12 : List (Str × Str) := it_11
def itn_12 : List (Str × Str) := itn_11
def sm_12 : List ((Str × Str) × GF) := sm_11
@[irreducible] def sh__law_same : SF := (sSeq (sIf (tOfE (eOp cNe (eOp opIx (eVar 0) (eC (.int 0))) (eOp opIx (eVar 1) (eC (.int 0)))))
  (sRet (eC (.bl false)))
  sNext)
  (sSeq (sIf (tOfE (eOp cEq (eOp opIx (eVar 1) (eC (.int 0))) (eC (.str "BadText"))))
  (sRet (eAndF (eCall g__law_integer (aCons (eOp opIx (eVar 0) (eC (.int 1))) aNil)) (eOp cEq (eOp opIx (eVar 0) (eC (.int 1))) (eOp opIx (eVar 1) (eC (.int 1))))))
  sNext)
  (sRet (eAndF (eCB bIsi (aCons (eOp opIx (eVar 0) (eC (.int 1))) (aCons (eC (.ty "tuple")) aNil))) (eOp cEq (eOp opIx (eVar 0) (eC (.int 1))) (eOp opIx (eVar 1) (eC (.int 1))))))))
def fn__law_same : Fn := runFn sh__law_same 2
def g__law_same : GF := ⟨fn__law_same, 2, [], false⟩
def ms_12 : List ((Str × Str) × GF) := ms_11
def cm_12 : List ((Str × Str) × GF) := cm_11
@[simp] theorem g__law_same_np : g__law_same.np = 2 := (rfl)
@[simp] theorem g__law_same_rest : g__law_same.rest = false := (rfl)
@[simp] theorem g__law_same_dv : g__law_same.dv = [] := (rfl)
@[simp] theorem g__law_same_fn : g__law_same.fn = fn__law_same := (rfl)
def it_13 : List (Str × Str) := it_12
def itn_13 : List (Str × Str) := itn_12
def sm_13 : List ((Str × Str) × GF) := sm_12
@[irreducible] def sh_check_text : SF := (sSeq (sIf (tOrF (tNotF (tTruF (eCB bIsi (aCons (eVar 0) (aCons (eTup (aCons (eC (.ty "list")) (aCons (eC (.ty "tuple")) aNil))) aNil))))) (tOfE (eOp cGt (eCB bLen (aCons (eVar 0) aNil)) (eC c_MOST_LINES))))
  (sRaise "BadText" "line" (eUn uNeg (eC (.int 1))))
  sNext)
  (sSeq (sFor (iEnumF (eVar 0)) (gTn [1, 2])
  (sIf (tNotF (tTruF (eCall g_is_line (aCons (eVar 2) aNil))))
  (sRaise "BadText" "line" (eVar 1))
  sNext))
  (sRet (eCB bTuple (aCons (eVar 0) aNil)))))
def fn_check_text : Fn := runFn sh_check_text 3
def g_check_text : GF := ⟨fn_check_text, 1, [], false⟩
def ms_13 : List ((Str × Str) × GF) := ms_12
def cm_13 : List ((Str × Str) × GF) := cm_12
@[simp] theorem g_check_text_np : g_check_text.np = 1 := (rfl)
@[simp] theorem g_check_text_rest : g_check_text.rest = false := (rfl)
@[simp] theorem g_check_text_dv : g_check_text.dv = [] := (rfl)
@[simp] theorem g_check_text_fn : g_check_text.fn = fn_check_text := (rfl)
def it_14 : List (Str × Str) := it_13
def itn_14 : List (Str × Str) := itn_13
def sm_14 : List ((Str × Str) × GF) := sm_13
@[irreducible] def sh_Source____init__ : SF := (sSeq (sFldS (fun c => noat.contains (c, "kept_lines")) "kept_lines" (eCall g_check_text (aCons (eVar 1) aNil)) (eVar 0))
  (sSeq (sFldS (fun c => noat.contains (c, "line")) "line" (eC (.int 0)) (eVar 0))
  (sFldS (fun c => noat.contains (c, "column")) "column" (eC (.int 0)) (eVar 0))))
def fn_Source____init__ : Fn := runFn sh_Source____init__ 2
def g_Source____init__ : GF := ⟨fn_Source____init__, 2, [], false⟩
def ms_14 : List ((Str × Str) × GF) := (("Source", "__init__"), ⟨fn_Source____init__, 2, [], false⟩) :: ms_13
def cm_14 : List ((Str × Str) × GF) := cm_13
@[simp] theorem g_Source____init___np : g_Source____init__.np = 2 := (rfl)
@[simp] theorem g_Source____init___rest : g_Source____init__.rest = false := (rfl)
@[simp] theorem g_Source____init___dv : g_Source____init__.dv = [] := (rfl)
@[simp] theorem g_Source____init___fn : g_Source____init__.fn = fn_Source____init__ := (rfl)
def it_15 : List (Str × Str) := it_14
def itn_15 : List (Str × Str) := itn_14
def sm_15 : List ((Str × Str) × GF) := sm_14
@[irreducible] def sh_Source__text : SF := (sRet (eFldG (fun c => noat.contains (c, "kept_lines")) "kept_lines" (eVar 0)))
def fn_Source__text : Fn := runFn sh_Source__text 1
def g_Source__text : GF := ⟨fn_Source__text, 1, [], false⟩
def ms_15 : List ((Str × Str) × GF) := (("Source", "text"), ⟨fn_Source__text, 1, [], false⟩) :: ms_14
def cm_15 : List ((Str × Str) × GF) := cm_14
@[simp] theorem g_Source__text_np : g_Source__text.np = 1 := (rfl)
@[simp] theorem g_Source__text_rest : g_Source__text.rest = false := (rfl)
@[simp] theorem g_Source__text_dv : g_Source__text.dv = [] := (rfl)
@[simp] theorem g_Source__text_fn : g_Source__text.fn = fn_Source__text := (rfl)
def it_16 : List (Str × Str) := it_15
def itn_16 : List (Str × Str) := itn_15
def sm_16 : List ((Str × Str) × GF) := sm_15
@[irreducible] def sh__law_sourced : SF := (sSeq (sTry (sSet 2 (eMake "Source" g_Source____init__ (aCons (eVar 0) aNil))) 1 (fun c => cat.lookup (c, ("MintError" : Str))) fun c fs =>
  (sSeq (sIf (tAndF (tTruF (eIsx isx c "BadText")) (tNotF (tTruF (eIsxT isx c ["NoEnd", "BadBlock"]))))
  (sRet (eTup (aCons (eC (.str "BadText")) (aCons (eFld fs "line") aNil))))
  sNext)
  (sRet (eTup (aCons (eC (.str "another")) (aCons (eUn uNeg (eC (.int 2))) aNil))))))
  (sRet (eTup (aCons (eC (.str "told")) (aCons (eMeth (fun c => ms_15.lookup (c, ("text" : Str))) "text" (eVar 2) aNil) aNil)))))
def fn__law_sourced : Fn := runFn sh__law_sourced 3
def g__law_sourced : GF := ⟨fn__law_sourced, 1, [], false⟩
def ms_16 : List ((Str × Str) × GF) := ms_15
def cm_16 : List ((Str × Str) × GF) := cm_15
@[simp] theorem g__law_sourced_np : g__law_sourced.np = 1 := (rfl)
@[simp] theorem g__law_sourced_rest : g__law_sourced.rest = false := (rfl)
@[simp] theorem g__law_sourced_dv : g__law_sourced.dv = [] := (rfl)
@[simp] theorem g__law_sourced_fn : g__law_sourced.fn = fn__law_sourced := (rfl)
def it_17 : List (Str × Str) := it_16
def itn_17 : List (Str × Str) := itn_16
def sm_17 : List ((Str × Str) × GF) := sm_16
@[irreducible] def sh__law_checked_text : SF := (sSeq (sTry (sSet 2 (eCall g_check_text (aCons (eVar 0) aNil))) 1 (fun c => cat.lookup (c, ("MintError" : Str))) fun c fs =>
  (sSeq (sIf (tAndF (tTruF (eIsx isx c "BadText")) (tAndF (tTruF (eIsx isx c "ValueError")) (tNotF (tTruF (eIsxT isx c ["NoEnd", "BadBlock"])))))
  (sRet (eTup (aCons (eC (.str "BadText")) (aCons (eFld fs "line") aNil))))
  sNext)
  (sRet (eTup (aCons (eC (.str "another")) (aCons (eUn uNeg (eC (.int 2))) aNil))))))
  (sRet (eTup (aCons (eC (.str "told")) (aCons (eVar 2) aNil)))))
def fn__law_checked_text : Fn := runFn sh__law_checked_text 3
def g__law_checked_text : GF := ⟨fn__law_checked_text, 1, [], false⟩
def ms_17 : List ((Str × Str) × GF) := ms_16
def cm_17 : List ((Str × Str) × GF) := cm_16
@[simp] theorem g__law_checked_text_np : g__law_checked_text.np = 1 := (rfl)
@[simp] theorem g__law_checked_text_rest : g__law_checked_text.rest = false := (rfl)
@[simp] theorem g__law_checked_text_dv : g__law_checked_text.dv = [] := (rfl)
@[simp] theorem g__law_checked_text_fn : g__law_checked_text.fn = fn__law_checked_text := (rfl)
def it_18 : List (Str × Str) := it_17
def itn_18 : List (Str × Str) := itn_17
def sm_18 : List ((Str × Str) × GF) := sm_17
@[irreducible] def sh__law_asked : SF := (sSeq (sSet 1 (eCB bRepr (aCons (eVar 0) aNil)))
  (sSeq (sSet 2 (eCall g__law_due (aCons (eVar 0) aNil)))
  (sSeq (sIf (tOrF (tNotF (tTruF (eCall g__law_same (aCons (eCall g__law_checked_text (aCons (eVar 0) aNil)) (aCons (eVar 2) aNil))))) (tNotF (tTruF (eCall g__law_same (aCons (eCall g__law_sourced (aCons (eVar 0) aNil)) (aCons (eVar 2) aNil))))))
  (sRet (eC (.bl false)))
  sNext)
  (sRet (eOp cEq (eCB bRepr (aCons (eVar 0) aNil)) (eVar 1))))))
def fn__law_asked : Fn := runFn sh__law_asked 3
def g__law_asked : GF := ⟨fn__law_asked, 1, [], false⟩
def ms_18 : List ((Str × Str) × GF) := ms_17
def cm_18 : List ((Str × Str) × GF) := cm_17
@[simp] theorem g__law_asked_np : g__law_asked.np = 1 := (rfl)
@[simp] theorem g__law_asked_rest : g__law_asked.rest = false := (rfl)
@[simp] theorem g__law_asked_dv : g__law_asked.dv = [] := (rfl)
@[simp] theorem g__law_asked_fn : g__law_asked.fn = fn__law_asked := (rfl)
def it_19 : List (Str × Str) := it_18
def itn_19 : List (Str × Str) := itn_18
def sm_19 : List ((Str × Str) × GF) := sm_18
@[irreducible] def sh__law_spoilt_7 : SF := (sRet (eVar 3))
@[irreducible] def sh__law_spoilt_6 : SF := (sSeq (sIf (tOfE (eOp cEq (eCall g__law_pick (aCons (eVar 0) (aCons (eC (.int 3)) aNil))) (eC (.int 0))))
  (sRet (eCB bTuple (aCons (eVar 3) aNil)))
  sNext)
  sh__law_spoilt_7)
@[irreducible] def sh__law_spoilt_5b_2 : SF := (sIf (tAndF (tOfE (eOp cLt (eVar 5) (eCB bLen (aCons (eVar 3) aNil)))) (tOrF (tOfE (eOp cGt (eCB bLen (aCons (eVar 3) aNil)) (eC (.int 199)))) (tOfE (eOp cEq (eCall g__law_pick (aCons (eVar 0) (aCons (eC (.int 2)) aNil))) (eC (.int 0))))))
  (sSub (eVar 6) (eVar 3) (eVar 5))
  (sIf (tOfE (eOp cLt (eCB bLen (aCons (eVar 3) aNil)) (eC (.int 200))))
  (sExpr (eBM .list mInsert (eVar 3) (aCons (eVar 5) (aCons (eVar 6) aNil))))
  sNext))
@[irreducible] def sh__law_spoilt_5b_1 : SF := (sSeq (sSet 6 (eCall g__law_odd (aCons (eVar 0) (aCons (eCall g__law_line (aCons (eVar 0) aNil)) aNil))))
  sh__law_spoilt_5b_2)
@[irreducible] def sh__law_spoilt_5b_0 : SF := (sSeq (sSet 5 (eCall g__law_pick (aCons (eVar 0) (aCons (eOp opAdd (eCB bLen (aCons (eVar 3) aNil)) (eC (.int 1))) aNil))))
  sh__law_spoilt_5b_1)
@[irreducible] def sh__law_spoilt_5 : SF := (sSeq (sFor (iRange (aCons (eCall g__law_pick (aCons (eVar 0) (aCons (eC (.int 3)) aNil))) aNil)) (gNm 4)
  sh__law_spoilt_5b_0)
  sh__law_spoilt_6)
@[irreducible] def sh__law_spoilt_4 : SF := (sSeq (sIf (tOfE (eOp cEq (eVar 2) (eC (.int 2))))
  (sSet 3 (eSl (eOp opAdd (eVar 3) (eOp opMul (eLst (aCons (eCall g__law_line (aCons (eVar 0) aNil)) aNil)) (eC (.int 200)))) oNone (oSome (eC (.int 200)))))
  sNext)
  sh__law_spoilt_5)
@[irreducible] def sh__law_spoilt_3 : SF := (sSeq (sIf (tOfE (eOp cEq (eVar 2) (eC (.int 1))))
  (sSet 3 (eSl (eOp opAdd (eVar 3) (eOp opMul (eLst (aCons (eCall g__law_line (aCons (eVar 0) aNil)) aNil)) (eC (.int 203)))) oNone (oSome (eOp opAdd (eC (.int 201)) (eCall g__law_pick (aCons (eVar 0) (aCons (eC (.int 3)) aNil)))))))
  sNext)
  sh__law_spoilt_4)
@[irreducible] def sh__law_spoilt_2 : SF := (sSeq (sSet 3 (eCB bList (aCons (eVar 1) aNil)))
  sh__law_spoilt_3)
@[irreducible] def sh__law_spoilt_1 : SF := (sSeq (sIf (tOfE (eOp cEq (eVar 2) (eC (.int 0))))
  (sRet (eCall g__law_choice (aCons (eVar 0) (aCons (eLst (aCons (eC (.non)) (aCons (eC (.int 5)) (aCons (eUn uNeg (eC (.int 1))) (aCons (eC (.bl true)) (aCons (eC (.str "")) (aCons (eC (.str "ab")) (aCons (eDct []) (aCons (eDct [((eC (.str "a")), (eC (.int 1)))]) (aCons (eC (.str "a line")) aNil)))))))))) aNil))))
  sNext)
  sh__law_spoilt_2)
@[irreducible] def sh__law_spoilt_0 : SF := (sSeq (sSet 2 (eCall g__law_pick (aCons (eVar 0) (aCons (eC (.int 8)) aNil))))
  sh__law_spoilt_1)
@[irreducible] def sh__law_spoilt : SF := sh__law_spoilt_0
def fn__law_spoilt : Fn := runFn sh__law_spoilt 7
def g__law_spoilt : GF := ⟨fn__law_spoilt, 2, [], false⟩
def ms_19 : List ((Str × Str) × GF) := ms_18
def cm_19 : List ((Str × Str) × GF) := cm_18
@[simp] theorem g__law_spoilt_np : g__law_spoilt.np = 2 := (rfl)
@[simp] theorem g__law_spoilt_rest : g__law_spoilt.rest = false := (rfl)
@[simp] theorem g__law_spoilt_dv : g__law_spoilt.dv = [] := (rfl)
@[simp] theorem g__law_spoilt_fn : g__law_spoilt.fn = fn__law_spoilt := (rfl)
def it_20 : List (Str × Str) := it_19
def itn_20 : List (Str × Str) := itn_19
def sm_20 : List ((Str × Str) × GF) := sm_19
@[irreducible] def sh__law_text : SF := (sSeq (sSet 1 (eCall g__law_pick (aCons (eVar 0) (aCons (eC (.int 13)) aNil))))
  (sSeq (sSet 2 (eLc (iRange (aCons (eVar 1) aNil)) (gNm 3) tYesF (eCall g__law_line (aCons (eVar 0) aNil)) [3]))
  (sSeq (sIf (tAndF (tOfE (eOp cGt (eVar 1) (eC (.int 0)))) (tOfE (eOp cEq (eCall g__law_pick (aCons (eVar 0) (aCons (eC (.int 9)) aNil))) (eC (.int 0)))))
  (sSet 2 (eSl (eOp opMul (eLc (iVal (eVar 2)) (gNm 4) tYesF (eSl (eVar 4) oNone (oSome (eC (.int 30)))) [4]) (eC (.int 200))) oNone (oSome (eOp opSub (eC (.int 200)) (eCall g__law_pick (aCons (eVar 0) (aCons (eC (.int 2)) aNil)))))))
  sNext)
  (sRet (eVar 2)))))
def fn__law_text : Fn := runFn sh__law_text 5
def g__law_text : GF := ⟨fn__law_text, 1, [], false⟩
def ms_20 : List ((Str × Str) × GF) := ms_19
def cm_20 : List ((Str × Str) × GF) := cm_19
@[simp] theorem g__law_text_np : g__law_text.np = 1 := (rfl)
@[simp] theorem g__law_text_rest : g__law_text.rest = false := (rfl)
@[simp] theorem g__law_text_dv : g__law_text.dv = [] := (rfl)
@[simp] theorem g__law_text_fn : g__law_text.fn = fn__law_text := (rfl)
def it_21 : List (Str × Str) := it_20
def itn_21 : List (Str × Str) := itn_20
def sm_21 : List ((Str × Str) × GF) := sm_20
@[irreducible] def sh__law_bag : SF := (sRet (eDct [((eC (.str "cells")), (eLc (iVal (eVar 0)) (gNm 1) tYesF (eCB bInt (aCons (eVar 1) aNil)) [1])), ((eC (.str "at")), (eC (.int 0))), ((eC (.str "rest")), (eC (.int 0))), ((eC (.str "seed")), (eC (.int 20011))), ((eC (.str "count")), (eC (.int 0)))]))
def fn__law_bag : Fn := runFn sh__law_bag 2
def g__law_bag : GF := ⟨fn__law_bag, 1, [], false⟩
def ms_21 : List ((Str × Str) × GF) := ms_20
def cm_21 : List ((Str × Str) × GF) := cm_20
@[simp] theorem g__law_bag_np : g__law_bag.np = 1 := (rfl)
@[simp] theorem g__law_bag_rest : g__law_bag.rest = false := (rfl)
@[simp] theorem g__law_bag_dv : g__law_bag.dv = [] := (rfl)
@[simp] theorem g__law_bag_fn : g__law_bag.fn = fnBag 20011 := by
  show fn__law_bag = _
  unfold fn__law_bag sh__law_bag
  rfl
def it_22 : List (Str × Str) := it_21
def itn_22 : List (Str × Str) := itn_21
def sm_22 : List ((Str × Str) × GF) := sm_21
@[irreducible] def sh_law_3 : SF := (sRet (eC (.bl true)))
@[irreducible] def sh_law_2b_2 : SF := (sIf (tTruF (eCB bIsi (aCons (eVar 3) (aCons (eC (.ty "list")) aNil))))
  (sSeq (sIf (tNotF (tTruF (eCall g__law_each (aCons (eVar 3) aNil))))
  (sRet (eC (.bl false)))
  sNext)
  (sSeq (sSet 4 (eCall g__law_due (aCons (eVar 3) aNil)))
  (sSeq (sIf (tOfE (eOp cEq (eVar 4) (eTup (aCons (eC (.str "BadText")) (aCons (eUn uNeg (eC (.int 1))) aNil)))))
  (sSet 3 (eSl (eVar 3) oNone (oSome (eC (.int 200)))))
  (sIf (tOfE (eOp cEq (eOp opIx (eVar 4) (eC (.int 0))) (eC (.str "BadText"))))
  (sSeq (sSet 5 (eOp opIx (eVar 4) (eC (.int 1))))
  (sSub (eCall g__law_line (aCons (eVar 1) aNil)) (eVar 3) (eVar 5)))
  (sIf (tOfE (eOp cGt (eCB bLen (aCons (eVar 3) aNil)) (eC (.int 0))))
  (sSeq (sSet 5 (eCall g__law_pick (aCons (eVar 1) (aCons (eCB bLen (aCons (eVar 3) aNil)) aNil))))
  (sSub (eCall g__law_odd (aCons (eVar 1) (aCons (eCall g__law_line (aCons (eVar 1) aNil)) aNil))) (eVar 3) (eVar 5)))
  sNext)))
  (sIf (tOrF (tNotF (tTruF (eCall g__law_asked (aCons (eVar 3) aNil)))) (tNotF (tTruF (eCall g__law_each (aCons (eVar 3) aNil)))))
  (sRet (eC (.bl false)))
  sNext))))
  sNext)
@[irreducible] def sh_law_2b_1 : SF := (sSeq (sIf (tNotF (tTruF (eCall g__law_asked (aCons (eVar 3) aNil))))
  (sRet (eC (.bl false)))
  sNext)
  sh_law_2b_2)
@[irreducible] def sh_law_2b_0 : SF := (sSeq (sSet 3 (eCall g__law_spoilt (aCons (eVar 1) (aCons (eCall g__law_text (aCons (eVar 1) aNil)) aNil))))
  sh_law_2b_1)
@[irreducible] def sh_law_2 : SF := (sSeq (sFor (iRange (aCons (eC (.int 3)) aNil)) (gNm 2)
  sh_law_2b_0)
  sh_law_3)
@[irreducible] def sh_law_1 : SF := (sSeq (sIf (tOrF (tNotF (tTruF (eCB bIsi (aCons (eC c_SIGNS) (aCons (eC (.ty "str")) aNil))))) (tOfE (eOp cNe (eC c_SIGNS) (eCall g__law_signs aNil))))
  (sRet (eC (.bl false)))
  sNext)
  sh_law_2)
@[irreducible] def sh_law_0 : SF := (sSeq (sSet 1 (eCall g__law_bag (aCons (eVar 0) aNil)))
  sh_law_1)
@[irreducible] def sh_law : SF := sh_law_0
def fn_law : Fn := runFn sh_law 6
def g_law : GF := ⟨fn_law, 1, [], false⟩
def ms_22 : List ((Str × Str) × GF) := ms_21
def cm_22 : List ((Str × Str) × GF) := cm_21
@[simp] theorem g_law_np : g_law.np = 1 := (rfl)
@[simp] theorem g_law_rest : g_law.rest = false := (rfl)
@[simp] theorem g_law_dv : g_law.dv = [] := (rfl)
@[simp] theorem g_law_fn : g_law.fn = fn_law := (rfl)
end K20

set_option Elab.async false
set_option linter.all false
set_option maxRecDepth 100000
set_option maxHeartbeats 4000000
namespace Sh
open PySem L2 PyProof.Rows
/-- what is left of a law row behind its head -/
def FP (l : PySem.W.OpenLaw) (n k : Nat) (YP : World → Heap → Prop) (nm x : Str) : Prop := ∀ (w : World) (mg : Str → Option Value) (fa : Addr) (h : Heap), YP w h → h.Ns mainGlobals mg → mg nm = some (.ref fa) →
  ∃ (K : PySem.W.Frag) (fd : FuncData) (sp : Sp), K.In h ∧ (∀ (s : Shared) (u : Value), BindsTo s fd ⟨[u], []⟩ [(x, u)]) ∧
    (∀ (H : Hp) (a : Addr) (ns : List Int), ns.length ≤ n → Only H → SqL K H a (ns.map V.int) → sp [.ref a] H (fun v _ => v = .bl true) fun _ _ _ => False) ∧
    ∀ base : Heap, K.In base → base.Ns mainGlobals mg → FnOk l.prog w K mg base (L2.CX l.prog w) k fa fd [x] sp
theorem walkH {l : PySem.W.OpenLaw} {n k : Nat} {q : Program} {loose : List Str} {XP : (Str → Option Value) → Heap → Prop} {YP : World → Heap → Prop} {d : DefRec} {nm x : Str}
    (hn : l.most = some n) (hn2 : n ≤ sizeLine) (hdf : d.params.defaults = []) (hr : L2.Room k callerA) (hnm : d.name = nm) (F : FP l n k YP nm x) :
    PySem.W.WalkO q loose XP YP l.row.toRowW d [] (fun f vs => PySem.call f vs) :=
  walkW (CX := fun w => L2.CX l.prog w) hn hn2 hdf hr (fun w mg fa h Y G hm => F w mg fa h Y G (hnm ▸ hm)) fun w H s e s' => cx_none H s e s'
/-- the text of an __iter__ that returns iter(self.F) -/
def isIterB (sts : List Stmt) (sf Fl : Str) : Bool := match sts with
  | [.Return (some (.Call (.Name x _) [.Attribute (.Name y _) F _] [] _)) _] => decide (x = "iter") && (decide (y = sf) && decide (F = Fl))
  | _ => false
theorem iter_ok2 {R : Rc} {P : Program} {mg : Str → Option Value} {base : Heap} {k : Nat} {x qual sf Fl : Str} {params : Arguments} {sts : List Stmt} {scope : Scope} {kws : List (Str × V)} {f : Addr} {fd : FuncData} (hb : mg "iter" = none)
    (F : FunD R.K x qual params sts scope [] kws f fd) (hs : isIterB sts sf Fl = true) (S : FnScope [sf] [sf] scope) (h1 : decide (scope.names.lookup ("iter" : Str) = some .globalImplicit) = true) (h2 : visB scope sf = true) (h3 : okName sf = true)
    (b : Binds R.K fd [sf] []) : FnR P R.w R.K mg base (L2.CX P R.w) (k + 1) f (spIt R.K Fl) := by
  unfold isIterB at hs
  split at hs
  · rename_i x' p1 y p2 F' p3 p4 p5
    simp only [Bool.and_eq_true, decide_eq_true_eq] at hs
    obtain ⟨rfl, rfl, rfl⟩ := hs
    exact iter_ok hb F S (of_decide_eq_true h1) h2 h3 b
  · cases hs
theorem iter_ok2K {R : Rc} {P : Program} {mg : Str → Option Value} {base : Heap} {k : Nat} {x qual sf Fl : Str} {params : Arguments} {sts : List Stmt} {scope : Scope} {kws : List (Str × V)} {f : Addr} {fd : FuncData} (hb : mg "iter" = none)
    (F : FunD R.K x qual params sts scope [] kws f fd) (hs : isIterB sts sf Fl = true) (S : FnScope [sf] [sf] scope) (h1 : decide (scope.names.lookup ("iter" : Str) = some .globalImplicit) = true) (h2 : visB scope sf = true) (h3 : okName sf = true)
    (bd : Binds R.K fd [sf] []) (b : Bool) : FnR P R.w R.K mg base (L2.CX P R.w) (k + 1) f (spItK b R.K Fl) := by
  unfold isIterB at hs
  split at hs
  · rename_i x' p1 y p2 F' p3 p4 p5
    simp only [Bool.and_eq_true, decide_eq_true_eq] at hs
    obtain ⟨rfl, rfl, rfl⟩ := hs
    exact iter_okK hb F S (of_decide_eq_true h1) h2 h3 bd b
  · cases hs
end Sh

set_option Elab.async false
set_option linter.all false
set_option maxRecDepth 100000
set_option maxHeartbeats 4000000
namespace K20
open PySem L2 PyProof.Rows Sh
def top (i : Nat) : Stmt := PySem.Challenge.pw_wordmint_k20_text_refusals.main.body.getD i (.Pass ⟨0, 0, 0, 0⟩)
def clsOf : Stmt → List Stmt
  | .ClassDef _ _ _ b _ _ _ _ _ _ _ => b
  | _ => []
def mth (i k : Nat) : Stmt := (clsOf (top i)).getD k (.Pass ⟨0, 0, 0, 0⟩)
def E : XT := { xds := [⟨"BadText", "line", "line", "no line of a text", "BadText.__init__", ⟨9, 17, 9, 21⟩, ⟨9, 23, 9, 27⟩, ⟨⟨10, 8, 10, 13⟩, ⟨10, 8, 10, 15⟩, ⟨10, 8, 10, 24⟩, ⟨10, 25, 10, 44⟩, ⟨10, 8, 10, 45⟩, ⟨11, 8, 11, 12⟩, ⟨11, 8, 11, 17⟩, ⟨11, 20, 11, 24⟩, ⟨11, 8, 11, 24⟩, ⟨0, 0, 0, 0⟩⟩⟩], cat := cat, isx := isx, noat := noat, mkc := ["Source"], own := [], cmd := [], itn := [] }
def d_is_line : He.DefD := ⟨("is_line", none), "is_line", "is_line", defArgs (top 10), defBody (top 10), defScope (top 10), [], []⟩
def d__law_signs : He.DefD := ⟨("_law_signs", none), "_law_signs", "_law_signs", defArgs (top 18), defBody (top 18), defScope (top 18), [], []⟩
def d__law_good : He.DefD := ⟨("_law_good", none), "_law_good", "_law_good", defArgs (top 22), defBody (top 22), defScope (top 22), [], []⟩
def d__law_each : He.DefD := ⟨("_law_each", none), "_law_each", "_law_each", defArgs (top 29), defBody (top 29), defScope (top 29), [], []⟩
def d__law_due : He.DefD := ⟨("_law_due", none), "_law_due", "_law_due", defArgs (top 24), defBody (top 24), defScope (top 24), [], []⟩
def d__law_pick : He.DefD := ⟨("_law_pick", none), "_law_pick", "_law_pick", defArgs (top 15), defBody (top 15), defScope (top 15), [], []⟩
def d__law_any_sign : He.DefD := ⟨("_law_any_sign", none), "_law_any_sign", "_law_any_sign", defArgs (top 19), defBody (top 19), defScope (top 19), [], []⟩
def d__law_line : He.DefD := ⟨("_law_line", none), "_law_line", "_law_line", defArgs (top 20), defBody (top 20), defScope (top 20), [], []⟩
def d__law_choice : He.DefD := ⟨("_law_choice", none), "_law_choice", "_law_choice", defArgs (top 16), defBody (top 16), defScope (top 16), [], []⟩
def d__law_odd : He.DefD := ⟨("_law_odd", none), "_law_odd", "_law_odd", defArgs (top 23), defBody (top 23), defScope (top 23), [], []⟩
def d__law_integer : He.DefD := ⟨("_law_integer", none), "_law_integer", "_law_integer", defArgs (top 17), defBody (top 17), defScope (top 17), [], []⟩
def d__law_same : He.DefD := ⟨("_law_same", none), "_law_same", "_law_same", defArgs (top 27), defBody (top 27), defScope (top 27), [], []⟩
def d_check_text : He.DefD := ⟨("check_text", none), "check_text", "check_text", defArgs (top 11), defBody (top 11), defScope (top 11), [], []⟩
def d_Source____init__ : He.DefD := ⟨("Source", some "__init__"), "__init__", "Source.__init__", defArgs (mth 12 0), defBody (mth 12 0), defScope (mth 12 0), [], []⟩
def d_Source__text : He.DefD := ⟨("Source", some "text"), "text", "Source.text", defArgs (mth 12 7), defBody (mth 12 7), defScope (mth 12 7), [], []⟩
def d__law_sourced : He.DefD := ⟨("_law_sourced", none), "_law_sourced", "_law_sourced", defArgs (top 26), defBody (top 26), defScope (top 26), [], []⟩
def d__law_checked_text : He.DefD := ⟨("_law_checked_text", none), "_law_checked_text", "_law_checked_text", defArgs (top 25), defBody (top 25), defScope (top 25), [], []⟩
def d__law_asked : He.DefD := ⟨("_law_asked", none), "_law_asked", "_law_asked", defArgs (top 28), defBody (top 28), defScope (top 28), [], []⟩
def d__law_spoilt : He.DefD := ⟨("_law_spoilt", none), "_law_spoilt", "_law_spoilt", defArgs (top 30), defBody (top 30), defScope (top 30), [], []⟩
def d__law_text : He.DefD := ⟨("_law_text", none), "_law_text", "_law_text", defArgs (top 21), defBody (top 21), defScope (top 21), [], []⟩
def d__law_bag : He.DefD := ⟨("_law_bag", none), "_law_bag", "_law_bag", defArgs (top 14), defBody (top 14), defScope (top 14), [], []⟩
def d_law : He.DefD := ⟨("law", none), "law", "law", defArgs (top 31), defBody (top 31), defScope (top 31), [], []⟩
def fn : List He.DefD := [d_is_line, d__law_signs, d__law_good, d__law_each, d__law_due, d__law_pick, d__law_any_sign, d__law_line, d__law_choice, d__law_odd, d__law_integer, d__law_same, d_check_text, d_Source____init__, d_Source__text, d__law_sourced, d__law_checked_text, d__law_asked, d__law_spoilt, d__law_text, d__law_bag, d_law]
abbrev PP : Program := (PySem.Challenge.rw_wordmint_k20_text_refusals).prog
abbrev hk : PySem.W.Hook := hookS PP E 7 cons fn ts
end K20

set_option Elab.async false
set_option linter.all false
set_option maxRecDepth 100000
set_option maxHeartbeats 4000000
namespace K20
open PySem L2 PyProof.Rows Sh
def f_0 : List (Str × GF) := []
def f_1 : List (Str × GF) := ("is_line", ⟨fn_is_line, 1, [], false⟩) :: f_0
def f_2 : List (Str × GF) := ("_law_signs", ⟨fn__law_signs, 0, [], false⟩) :: f_1
def f_3 : List (Str × GF) := ("_law_good", ⟨fn__law_good, 1, [], false⟩) :: f_2
def f_4 : List (Str × GF) := ("_law_each", ⟨fn__law_each, 1, [], false⟩) :: f_3
def f_5 : List (Str × GF) := ("_law_due", ⟨fn__law_due, 1, [], false⟩) :: f_4
def f_6 : List (Str × GF) := ("_law_pick", ⟨fn__law_pick, 2, [], false⟩) :: f_5
def f_7 : List (Str × GF) := ("_law_any_sign", ⟨fn__law_any_sign, 1, [], false⟩) :: f_6
def f_8 : List (Str × GF) := ("_law_line", ⟨fn__law_line, 1, [], false⟩) :: f_7
def f_9 : List (Str × GF) := ("_law_choice", ⟨fn__law_choice, 2, [], false⟩) :: f_8
def f_10 : List (Str × GF) := ("_law_odd", ⟨fn__law_odd, 2, [], false⟩) :: f_9
def f_11 : List (Str × GF) := ("_law_integer", ⟨fn__law_integer, 1, [], false⟩) :: f_10
def f_12 : List (Str × GF) := ("_law_same", ⟨fn__law_same, 2, [], false⟩) :: f_11
def f_13 : List (Str × GF) := ("check_text", ⟨fn_check_text, 1, [], false⟩) :: f_12
def f_14 : List (Str × GF) := f_13
def f_15 : List (Str × GF) := f_14
def f_16 : List (Str × GF) := ("_law_sourced", ⟨fn__law_sourced, 1, [], false⟩) :: f_15
def f_17 : List (Str × GF) := ("_law_checked_text", ⟨fn__law_checked_text, 1, [], false⟩) :: f_16
def f_18 : List (Str × GF) := ("_law_asked", ⟨fn__law_asked, 1, [], false⟩) :: f_17
def f_19 : List (Str × GF) := ("_law_spoilt", ⟨fn__law_spoilt, 2, [], false⟩) :: f_18
def f_20 : List (Str × GF) := ("_law_text", ⟨fn__law_text, 1, [], false⟩) :: f_19
def f_21 : List (Str × GF) := ("_law_bag", ⟨fn__law_bag, 1, [], false⟩) :: f_20
theorem sc_is_line : FnScope ["thing"] ["thing"] (defScope (top 10)) := ⟨by rfl, by rfl, by rfl, by decide +kernel, by rfl, by decide +kernel, by decide +kernel⟩
set_option maxHeartbeats 0 in
theorem cp_is_line : compSs 60 (cpOf ["thing"] (defScope (top 10)) 0 f_0 cons E.xt (E.cs ms_0 cm_0 it_0 sm_0 itn_0)) (defBody (top 10)) = some sh_is_line := by kernel_rfl
theorem sc__law_signs : FnScope ["_law_first"] [] (defScope (top 18)) := ⟨by rfl, by rfl, by rfl, by decide +kernel, by rfl, by decide +kernel, by decide +kernel⟩
set_option maxHeartbeats 0 in
theorem cp__law_signs : compSs 60 (cpOf ["_law_first"] (defScope (top 18)) 1 f_1 cons E.xt (E.cs ms_1 cm_1 it_1 sm_1 itn_1)) (defBody (top 18)) = some sh__law_signs := by kernel_rfl
theorem sc__law_good : FnScope ["_law_thing", "_law_signs_here", "_law_sign"] ["_law_thing"] (defScope (top 22)) := ⟨by rfl, by rfl, by rfl, by decide +kernel, by rfl, by decide +kernel, by decide +kernel⟩
set_option maxHeartbeats 0 in
theorem cp__law_good : compSs 60 (cpOf ["_law_thing", "_law_signs_here", "_law_sign"] (defScope (top 22)) 2 f_2 cons E.xt (E.cs ms_2 cm_2 it_2 sm_2 itn_2)) (defBody (top 22)) = some sh__law_good := by kernel_rfl
theorem sc__law_each : FnScope ["_law_lines", "_law_thing", "_law_told"] ["_law_lines"] (defScope (top 29)) := ⟨by rfl, by rfl, by rfl, by decide +kernel, by rfl, by decide +kernel, by decide +kernel⟩
set_option maxHeartbeats 0 in
theorem cp__law_each : compSs 60 (cpOf ["_law_lines", "_law_thing", "_law_told"] (defScope (top 29)) 3 f_3 cons E.xt (E.cs ms_3 cm_3 it_3 sm_3 itn_3)) (defBody (top 29)) = some sh__law_each := by kernel_rfl
theorem sc__law_due : FnScope ["_law_lines", "_law_number"] ["_law_lines"] (defScope (top 24)) := ⟨by rfl, by rfl, by rfl, by decide +kernel, by rfl, by decide +kernel, by decide +kernel⟩
set_option maxHeartbeats 0 in
theorem cp__law_due : compSs 60 (cpOf ["_law_lines", "_law_number"] (defScope (top 24)) 4 f_4 cons E.xt (E.cs ms_4 cm_4 it_4 sm_4 itn_4)) (defBody (top 24)) = some sh__law_due := by kernel_rfl
theorem sc__law_pick : FnScope ["_law_bag_here", "_law_many", "_law_mixed", "_law_digit", "_law_cell"] ["_law_bag_here", "_law_many"] (defScope (top 15)) := ⟨by rfl, by rfl, by rfl, by decide +kernel, by rfl, by decide +kernel, by decide +kernel⟩
set_option maxHeartbeats 0 in
theorem cp__law_pick : compSs 60 (cpOf ["_law_bag_here", "_law_many", "_law_mixed", "_law_digit", "_law_cell"] (defScope (top 15)) 5 f_5 cons E.xt (E.cs ms_5 cm_5 it_5 sm_5 itn_5)) (defBody (top 15)) = some sh__law_pick := by kernel_rfl
theorem sc__law_any_sign : FnScope ["_law_bag_here"] ["_law_bag_here"] (defScope (top 19)) := ⟨by rfl, by rfl, by rfl, by decide +kernel, by rfl, by decide +kernel, by decide +kernel⟩
set_option maxHeartbeats 0 in
theorem cp__law_any_sign : compSs 60 (cpOf ["_law_bag_here"] (defScope (top 19)) 6 f_6 cons E.xt (E.cs ms_6 cm_6 it_6 sm_6 itn_6)) (defBody (top 19)) = some sh__law_any_sign := by kernel_rfl
theorem sc__law_line : FnScope ["_law_bag_here", "_law_kind", "_law_size", "_law_piece", "_law_k"] ["_law_bag_here"] (defScope (top 20)) := ⟨by rfl, by rfl, by rfl, by decide +kernel, by rfl, by decide +kernel, by decide +kernel⟩
set_option maxHeartbeats 0 in
theorem cp__law_line : compSs 60 (cpOf ["_law_bag_here", "_law_kind", "_law_size", "_law_piece", "_law_k"] (defScope (top 20)) 7 f_7 cons E.xt (E.cs ms_7 cm_7 it_7 sm_7 itn_7)) (defBody (top 20)) = some sh__law_line := by kernel_rfl
theorem sc__law_choice : FnScope ["_law_bag_here", "_law_things"] ["_law_bag_here", "_law_things"] (defScope (top 16)) := ⟨by rfl, by rfl, by rfl, by decide +kernel, by rfl, by decide +kernel, by decide +kernel⟩
set_option maxHeartbeats 0 in
theorem cp__law_choice : compSs 60 (cpOf ["_law_bag_here", "_law_things"] (defScope (top 16)) 8 f_8 cons E.xt (E.cs ms_8 cm_8 it_8 sm_8 itn_8)) (defBody (top 16)) = some sh__law_choice := by kernel_rfl
theorem sc__law_odd : FnScope ["_law_bag_here", "_law_line_here", "_law_at", "_law_cut"] ["_law_bag_here", "_law_line_here"] (defScope (top 23)) := ⟨by rfl, by rfl, by rfl, by decide +kernel, by rfl, by decide +kernel, by decide +kernel⟩
set_option maxHeartbeats 0 in
theorem cp__law_odd : compSs 60 (cpOf ["_law_bag_here", "_law_line_here", "_law_at", "_law_cut"] (defScope (top 23)) 9 f_9 cons E.xt (E.cs ms_9 cm_9 it_9 sm_9 itn_9)) (defBody (top 23)) = some sh__law_odd := by kernel_rfl
theorem sc__law_integer : FnScope ["_law_thing"] ["_law_thing"] (defScope (top 17)) := ⟨by rfl, by rfl, by rfl, by decide +kernel, by rfl, by decide +kernel, by decide +kernel⟩
set_option maxHeartbeats 0 in
theorem cp__law_integer : compSs 60 (cpOf ["_law_thing"] (defScope (top 17)) 10 f_10 cons E.xt (E.cs ms_10 cm_10 it_10 sm_10 itn_10)) (defBody (top 17)) = some sh__law_integer := by kernel_rfl
theorem sc__law_same : FnScope ["_law_told", "_law_due_here"] ["_law_told", "_law_due_here"] (defScope (top 27)) := ⟨by rfl, by rfl, by rfl, by decide +kernel, by rfl, by decide +kernel, by decide +kernel⟩
set_option maxHeartbeats 0 in
theorem cp__law_same : compSs 60 (cpOf ["_law_told", "_law_due_here"] (defScope (top 27)) 11 f_11 cons E.xt (E.cs ms_11 cm_11 it_11 sm_11 itn_11)) (defBody (top 27)) = some sh__law_same := by kernel_rfl
theorem sc_check_text : FnScope ["lines", "number", "line"] ["lines"] (defScope (top 11)) := ⟨by rfl, by rfl, by rfl, by decide +kernel, by rfl, by decide +kernel, by decide +kernel⟩
set_option maxHeartbeats 0 in
theorem cp_check_text : compSs 60 (cpOf ["lines", "number", "line"] (defScope (top 11)) 12 f_12 cons E.xt (E.cs ms_12 cm_12 it_12 sm_12 itn_12)) (defBody (top 11)) = some sh_check_text := by kernel_rfl
theorem sc_Source____init__ : FnScope ["self", "lines"] ["self", "lines"] (defScope (mth 12 0)) := ⟨by rfl, by rfl, by rfl, by decide +kernel, by rfl, by decide +kernel, by decide +kernel⟩
set_option maxHeartbeats 0 in
theorem cp_Source____init__ : compSs 60 (cpOf ["self", "lines"] (defScope (mth 12 0)) 13 f_13 cons E.xt (E.cs ms_13 cm_13 it_13 sm_13 itn_13)) (defBody (mth 12 0)) = some sh_Source____init__ := by kernel_rfl
theorem sc_Source__text : FnScope ["self"] ["self"] (defScope (mth 12 7)) := ⟨by rfl, by rfl, by rfl, by decide +kernel, by rfl, by decide +kernel, by decide +kernel⟩
set_option maxHeartbeats 0 in
theorem cp_Source__text : compSs 60 (cpOf ["self"] (defScope (mth 12 7)) 18 f_14 cons E.xt (E.cs ms_14 cm_14 it_14 sm_14 itn_14)) (defBody (mth 12 7)) = some sh_Source__text := by kernel_rfl
theorem sc__law_sourced : FnScope ["_law_lines", "error", "_law_source"] ["_law_lines"] (defScope (top 26)) := ⟨by rfl, by rfl, by rfl, by decide +kernel, by rfl, by decide +kernel, by decide +kernel⟩
set_option maxHeartbeats 0 in
theorem cp__law_sourced : compSs 60 (cpOf ["_law_lines", "error", "_law_source"] (defScope (top 26)) 23 f_15 cons E.xt (E.cs ms_15 cm_15 it_15 sm_15 itn_15)) (defBody (top 26)) = some sh__law_sourced := by kernel_rfl
theorem sc__law_checked_text : FnScope ["_law_lines", "error", "_law_rows"] ["_law_lines"] (defScope (top 25)) := ⟨by rfl, by rfl, by rfl, by decide +kernel, by rfl, by decide +kernel, by decide +kernel⟩
set_option maxHeartbeats 0 in
theorem cp__law_checked_text : compSs 60 (cpOf ["_law_lines", "error", "_law_rows"] (defScope (top 25)) 24 f_16 cons E.xt (E.cs ms_16 cm_16 it_16 sm_16 itn_16)) (defBody (top 25)) = some sh__law_checked_text := by kernel_rfl
theorem sc__law_asked : FnScope ["_law_lines", "_law_kept", "_law_due_here"] ["_law_lines"] (defScope (top 28)) := ⟨by rfl, by rfl, by rfl, by decide +kernel, by rfl, by decide +kernel, by decide +kernel⟩
set_option maxHeartbeats 0 in
theorem cp__law_asked : compSs 60 (cpOf ["_law_lines", "_law_kept", "_law_due_here"] (defScope (top 28)) 25 f_17 cons E.xt (E.cs ms_17 cm_17 it_17 sm_17 itn_17)) (defBody (top 28)) = some sh__law_asked := by kernel_rfl
theorem sc__law_spoilt : FnScope ["_law_bag_here", "_law_rows", "_law_kind", "_law_filled", "_law_k", "_law_place", "_law_thing"] ["_law_bag_here", "_law_rows"] (defScope (top 30)) := ⟨by rfl, by rfl, by rfl, by decide +kernel, by rfl, by decide +kernel, by decide +kernel⟩
set_option maxHeartbeats 0 in
theorem cp__law_spoilt : compSs 60 (cpOf ["_law_bag_here", "_law_rows", "_law_kind", "_law_filled", "_law_k", "_law_place", "_law_thing"] (defScope (top 30)) 26 f_18 cons E.xt (E.cs ms_18 cm_18 it_18 sm_18 itn_18)) (defBody (top 30)) = some sh__law_spoilt := by kernel_rfl
theorem sc__law_text : FnScope ["_law_bag_here", "_law_many", "_law_rows", "_law_k", "_law_line_here"] ["_law_bag_here"] (defScope (top 21)) := ⟨by rfl, by rfl, by rfl, by decide +kernel, by rfl, by decide +kernel, by decide +kernel⟩
set_option maxHeartbeats 0 in
theorem cp__law_text : compSs 60 (cpOf ["_law_bag_here", "_law_many", "_law_rows", "_law_k", "_law_line_here"] (defScope (top 21)) 27 f_19 cons E.xt (E.cs ms_19 cm_19 it_19 sm_19 itn_19)) (defBody (top 21)) = some sh__law_text := by kernel_rfl
theorem sc__law_bag : FnScope ["_law_script", "_law_cell"] ["_law_script"] (defScope (top 14)) := ⟨by rfl, by rfl, by rfl, by decide +kernel, by rfl, by decide +kernel, by decide +kernel⟩
set_option maxHeartbeats 0 in
theorem cp__law_bag : compSs 60 (cpOf ["_law_script", "_law_cell"] (defScope (top 14)) 28 f_20 cons E.xt (E.cs ms_20 cm_20 it_20 sm_20 itn_20)) (defBody (top 14)) = some sh__law_bag := by kernel_rfl
theorem sc_law : FnScope ["_law_script", "_law_bag_here", "_law_turn", "_law_lines", "_law_due_here", "_law_number"] ["_law_script"] (defScope (top 31)) := ⟨by rfl, by rfl, by rfl, by decide +kernel, by rfl, by decide +kernel, by decide +kernel⟩
set_option maxHeartbeats 0 in
theorem cp_law : compSs 60 (cpOf ["_law_script", "_law_bag_here", "_law_turn", "_law_lines", "_law_due_here", "_law_number"] (defScope (top 31)) 29 f_21 cons E.xt (E.cs ms_21 cm_21 it_21 sm_21 itn_21)) (defBody (top 31)) = some sh_law := by kernel_rfl
theorem pnE : ∀ d ∈ E.xds, Sx.PName d.p := by
  intro d hd
  simp only [E, List.mem_cons, List.not_mem_nil, or_false] at hd
  rcases hd with rfl <;> exact ⟨by rfl, by rfl, by rfl, by rfl, by decide +kernel, by decide +kernel, fun _ _ _ _ _ _ _ _ _ _ _ _ => by rfl⟩
section
variable {w : World} {K : PySem.W.Frag} {h : Heap} {mg : Str → Option Value} {base : Heap}
theorem tb_0 (c : SaysS PP E cons fn ts w K) (X : K.In h) (G : h.Ns mainGlobals mg) : TabOk (rcOf K w cons) PP mg base 0 f_0 cons (E.cs ms_0 cm_0 it_0 sm_0 itn_0) := tab0 c X G (by decide +kernel) 0
theorem ok_0 (c : SaysS PP E cons fn ts w K) (X : K.In h) (G : h.Ns mainGlobals mg) : ∃ fd, FunD K "is_line" "is_line" (defArgs (top 10)) (defBody (top 10)) (defScope (top 10)) [] [] (He.fAd K ("is_line", none)) fd ∧ Sh.FnOk PP w K mg base (L2.CX PP w) 1 (He.fAd K ("is_line", none)) fd ["thing"] (SpOf (rcOf K w cons) fn_is_line 1) := by
  obtain ⟨fd, F⟩ := c.def_ 0 (d := d_is_line)
  exact ⟨fd, F, fnD_ok (R := rcOf K w cons) (tb_0 c X G) (xt_ok c X G pnE) rfl F sc_is_line cp_is_line⟩
theorem tb_1 (c : SaysS PP E cons fn ts w K) (X : K.In h) (G : h.Ns mainGlobals mg) : TabOk (rcOf K w cons) PP mg base 1 f_1 cons (E.cs ms_1 cm_1 it_1 sm_1 itn_1) := by
  obtain ⟨fd, F, ok⟩ := ok_0 (base := base) c X G
  have T := (tb_0 (base := base) c X G).up (show 0 ≤ 1 by decide)
  exact TabOk.add T (c.glo X G 0 (d := d_is_line)) F.kp ok (F.bindsN fun _ _ _ _ _ _ us hl => match us, hl with | [_], _ => rfl)
theorem ok_1 (c : SaysS PP E cons fn ts w K) (X : K.In h) (G : h.Ns mainGlobals mg) : ∃ fd, FunD K "_law_signs" "_law_signs" (defArgs (top 18)) (defBody (top 18)) (defScope (top 18)) [] [] (He.fAd K ("_law_signs", none)) fd ∧ Sh.FnOk PP w K mg base (L2.CX PP w) 2 (He.fAd K ("_law_signs", none)) fd [] (SpOf (rcOf K w cons) fn__law_signs 0) := by
  obtain ⟨fd, F⟩ := c.def_ 1 (d := d__law_signs)
  exact ⟨fd, F, fnD_ok (R := rcOf K w cons) (tb_1 c X G) (xt_ok c X G pnE) rfl F sc__law_signs cp__law_signs⟩
theorem tb_2 (c : SaysS PP E cons fn ts w K) (X : K.In h) (G : h.Ns mainGlobals mg) : TabOk (rcOf K w cons) PP mg base 2 f_2 cons (E.cs ms_2 cm_2 it_2 sm_2 itn_2) := by
  obtain ⟨fd, F, ok⟩ := ok_1 (base := base) c X G
  have T := (tb_1 (base := base) c X G).up (show 1 ≤ 2 by decide)
  exact TabOk.add T (c.glo X G 1 (d := d__law_signs)) F.kp ok (F.bindsN fun _ _ _ _ _ _ us hl => match us, hl with | [], _ => rfl)
theorem ok_2 (c : SaysS PP E cons fn ts w K) (X : K.In h) (G : h.Ns mainGlobals mg) : ∃ fd, FunD K "_law_good" "_law_good" (defArgs (top 22)) (defBody (top 22)) (defScope (top 22)) [] [] (He.fAd K ("_law_good", none)) fd ∧ Sh.FnOk PP w K mg base (L2.CX PP w) 3 (He.fAd K ("_law_good", none)) fd ["_law_thing"] (SpOf (rcOf K w cons) fn__law_good 1) := by
  obtain ⟨fd, F⟩ := c.def_ 2 (d := d__law_good)
  exact ⟨fd, F, fnD_ok (R := rcOf K w cons) (tb_2 c X G) (xt_ok c X G pnE) rfl F sc__law_good cp__law_good⟩
theorem tb_3 (c : SaysS PP E cons fn ts w K) (X : K.In h) (G : h.Ns mainGlobals mg) : TabOk (rcOf K w cons) PP mg base 3 f_3 cons (E.cs ms_3 cm_3 it_3 sm_3 itn_3) := by
  obtain ⟨fd, F, ok⟩ := ok_2 (base := base) c X G
  have T := (tb_2 (base := base) c X G).up (show 2 ≤ 3 by decide)
  exact TabOk.add T (c.glo X G 2 (d := d__law_good)) F.kp ok (F.bindsN fun _ _ _ _ _ _ us hl => match us, hl with | [_], _ => rfl)
theorem ok_3 (c : SaysS PP E cons fn ts w K) (X : K.In h) (G : h.Ns mainGlobals mg) : ∃ fd, FunD K "_law_each" "_law_each" (defArgs (top 29)) (defBody (top 29)) (defScope (top 29)) [] [] (He.fAd K ("_law_each", none)) fd ∧ Sh.FnOk PP w K mg base (L2.CX PP w) 4 (He.fAd K ("_law_each", none)) fd ["_law_lines"] (SpOf (rcOf K w cons) fn__law_each 1) := by
  obtain ⟨fd, F⟩ := c.def_ 3 (d := d__law_each)
  exact ⟨fd, F, fnD_ok (R := rcOf K w cons) (tb_3 c X G) (xt_ok c X G pnE) rfl F sc__law_each cp__law_each⟩
theorem tb_4 (c : SaysS PP E cons fn ts w K) (X : K.In h) (G : h.Ns mainGlobals mg) : TabOk (rcOf K w cons) PP mg base 4 f_4 cons (E.cs ms_4 cm_4 it_4 sm_4 itn_4) := by
  obtain ⟨fd, F, ok⟩ := ok_3 (base := base) c X G
  have T := (tb_3 (base := base) c X G).up (show 3 ≤ 4 by decide)
  exact TabOk.add T (c.glo X G 3 (d := d__law_each)) F.kp ok (F.bindsN fun _ _ _ _ _ _ us hl => match us, hl with | [_], _ => rfl)
theorem ok_4 (c : SaysS PP E cons fn ts w K) (X : K.In h) (G : h.Ns mainGlobals mg) : ∃ fd, FunD K "_law_due" "_law_due" (defArgs (top 24)) (defBody (top 24)) (defScope (top 24)) [] [] (He.fAd K ("_law_due", none)) fd ∧ Sh.FnOk PP w K mg base (L2.CX PP w) 5 (He.fAd K ("_law_due", none)) fd ["_law_lines"] (SpOf (rcOf K w cons) fn__law_due 1) := by
  obtain ⟨fd, F⟩ := c.def_ 4 (d := d__law_due)
  exact ⟨fd, F, fnD_ok (R := rcOf K w cons) (tb_4 c X G) (xt_ok c X G pnE) rfl F sc__law_due cp__law_due⟩
theorem tb_5 (c : SaysS PP E cons fn ts w K) (X : K.In h) (G : h.Ns mainGlobals mg) : TabOk (rcOf K w cons) PP mg base 5 f_5 cons (E.cs ms_5 cm_5 it_5 sm_5 itn_5) := by
  obtain ⟨fd, F, ok⟩ := ok_4 (base := base) c X G
  have T := (tb_4 (base := base) c X G).up (show 4 ≤ 5 by decide)
  exact TabOk.add T (c.glo X G 4 (d := d__law_due)) F.kp ok (F.bindsN fun _ _ _ _ _ _ us hl => match us, hl with | [_], _ => rfl)
theorem ok_5 (c : SaysS PP E cons fn ts w K) (X : K.In h) (G : h.Ns mainGlobals mg) : ∃ fd, FunD K "_law_pick" "_law_pick" (defArgs (top 15)) (defBody (top 15)) (defScope (top 15)) [] [] (He.fAd K ("_law_pick", none)) fd ∧ Sh.FnOk PP w K mg base (L2.CX PP w) 6 (He.fAd K ("_law_pick", none)) fd ["_law_bag_here", "_law_many"] (SpOf (rcOf K w cons) fn__law_pick 2) := by
  obtain ⟨fd, F⟩ := c.def_ 5 (d := d__law_pick)
  exact ⟨fd, F, fnD_ok (R := rcOf K w cons) (tb_5 c X G) (xt_ok c X G pnE) rfl F sc__law_pick cp__law_pick⟩
theorem tb_6 (c : SaysS PP E cons fn ts w K) (X : K.In h) (G : h.Ns mainGlobals mg) : TabOk (rcOf K w cons) PP mg base 6 f_6 cons (E.cs ms_6 cm_6 it_6 sm_6 itn_6) := by
  obtain ⟨fd, F, ok⟩ := ok_5 (base := base) c X G
  have T := (tb_5 (base := base) c X G).up (show 5 ≤ 6 by decide)
  exact TabOk.add T (c.glo X G 5 (d := d__law_pick)) F.kp ok (F.bindsN fun _ _ _ _ _ _ us hl => match us, hl with | [_, _], _ => rfl)
theorem ok_6 (c : SaysS PP E cons fn ts w K) (X : K.In h) (G : h.Ns mainGlobals mg) : ∃ fd, FunD K "_law_any_sign" "_law_any_sign" (defArgs (top 19)) (defBody (top 19)) (defScope (top 19)) [] [] (He.fAd K ("_law_any_sign", none)) fd ∧ Sh.FnOk PP w K mg base (L2.CX PP w) 7 (He.fAd K ("_law_any_sign", none)) fd ["_law_bag_here"] (SpOf (rcOf K w cons) fn__law_any_sign 1) := by
  obtain ⟨fd, F⟩ := c.def_ 6 (d := d__law_any_sign)
  exact ⟨fd, F, fnD_ok (R := rcOf K w cons) (tb_6 c X G) (xt_ok c X G pnE) rfl F sc__law_any_sign cp__law_any_sign⟩
theorem tb_7 (c : SaysS PP E cons fn ts w K) (X : K.In h) (G : h.Ns mainGlobals mg) : TabOk (rcOf K w cons) PP mg base 7 f_7 cons (E.cs ms_7 cm_7 it_7 sm_7 itn_7) := by
  obtain ⟨fd, F, ok⟩ := ok_6 (base := base) c X G
  have T := (tb_6 (base := base) c X G).up (show 6 ≤ 7 by decide)
  exact TabOk.add T (c.glo X G 6 (d := d__law_any_sign)) F.kp ok (F.bindsN fun _ _ _ _ _ _ us hl => match us, hl with | [_], _ => rfl)
theorem ok_7 (c : SaysS PP E cons fn ts w K) (X : K.In h) (G : h.Ns mainGlobals mg) : ∃ fd, FunD K "_law_line" "_law_line" (defArgs (top 20)) (defBody (top 20)) (defScope (top 20)) [] [] (He.fAd K ("_law_line", none)) fd ∧ Sh.FnOk PP w K mg base (L2.CX PP w) 8 (He.fAd K ("_law_line", none)) fd ["_law_bag_here"] (SpOf (rcOf K w cons) fn__law_line 1) := by
  obtain ⟨fd, F⟩ := c.def_ 7 (d := d__law_line)
  exact ⟨fd, F, fnD_ok (R := rcOf K w cons) (tb_7 c X G) (xt_ok c X G pnE) rfl F sc__law_line cp__law_line⟩
theorem tb_8 (c : SaysS PP E cons fn ts w K) (X : K.In h) (G : h.Ns mainGlobals mg) : TabOk (rcOf K w cons) PP mg base 8 f_8 cons (E.cs ms_8 cm_8 it_8 sm_8 itn_8) := by
  obtain ⟨fd, F, ok⟩ := ok_7 (base := base) c X G
  have T := (tb_7 (base := base) c X G).up (show 7 ≤ 8 by decide)
  exact TabOk.add T (c.glo X G 7 (d := d__law_line)) F.kp ok (F.bindsN fun _ _ _ _ _ _ us hl => match us, hl with | [_], _ => rfl)
theorem ok_8 (c : SaysS PP E cons fn ts w K) (X : K.In h) (G : h.Ns mainGlobals mg) : ∃ fd, FunD K "_law_choice" "_law_choice" (defArgs (top 16)) (defBody (top 16)) (defScope (top 16)) [] [] (He.fAd K ("_law_choice", none)) fd ∧ Sh.FnOk PP w K mg base (L2.CX PP w) 9 (He.fAd K ("_law_choice", none)) fd ["_law_bag_here", "_law_things"] (SpOf (rcOf K w cons) fn__law_choice 2) := by
  obtain ⟨fd, F⟩ := c.def_ 8 (d := d__law_choice)
  exact ⟨fd, F, fnD_ok (R := rcOf K w cons) (tb_8 c X G) (xt_ok c X G pnE) rfl F sc__law_choice cp__law_choice⟩
theorem tb_9 (c : SaysS PP E cons fn ts w K) (X : K.In h) (G : h.Ns mainGlobals mg) : TabOk (rcOf K w cons) PP mg base 9 f_9 cons (E.cs ms_9 cm_9 it_9 sm_9 itn_9) := by
  obtain ⟨fd, F, ok⟩ := ok_8 (base := base) c X G
  have T := (tb_8 (base := base) c X G).up (show 8 ≤ 9 by decide)
  exact TabOk.add T (c.glo X G 8 (d := d__law_choice)) F.kp ok (F.bindsN fun _ _ _ _ _ _ us hl => match us, hl with | [_, _], _ => rfl)
theorem ok_9 (c : SaysS PP E cons fn ts w K) (X : K.In h) (G : h.Ns mainGlobals mg) : ∃ fd, FunD K "_law_odd" "_law_odd" (defArgs (top 23)) (defBody (top 23)) (defScope (top 23)) [] [] (He.fAd K ("_law_odd", none)) fd ∧ Sh.FnOk PP w K mg base (L2.CX PP w) 10 (He.fAd K ("_law_odd", none)) fd ["_law_bag_here", "_law_line_here"] (SpOf (rcOf K w cons) fn__law_odd 2) := by
  obtain ⟨fd, F⟩ := c.def_ 9 (d := d__law_odd)
  exact ⟨fd, F, fnD_ok (R := rcOf K w cons) (tb_9 c X G) (xt_ok c X G pnE) rfl F sc__law_odd cp__law_odd⟩
theorem tb_10 (c : SaysS PP E cons fn ts w K) (X : K.In h) (G : h.Ns mainGlobals mg) : TabOk (rcOf K w cons) PP mg base 10 f_10 cons (E.cs ms_10 cm_10 it_10 sm_10 itn_10) := by
  obtain ⟨fd, F, ok⟩ := ok_9 (base := base) c X G
  have T := (tb_9 (base := base) c X G).up (show 9 ≤ 10 by decide)
  exact TabOk.add T (c.glo X G 9 (d := d__law_odd)) F.kp ok (F.bindsN fun _ _ _ _ _ _ us hl => match us, hl with | [_, _], _ => rfl)
theorem ok_10 (c : SaysS PP E cons fn ts w K) (X : K.In h) (G : h.Ns mainGlobals mg) : ∃ fd, FunD K "_law_integer" "_law_integer" (defArgs (top 17)) (defBody (top 17)) (defScope (top 17)) [] [] (He.fAd K ("_law_integer", none)) fd ∧ Sh.FnOk PP w K mg base (L2.CX PP w) 11 (He.fAd K ("_law_integer", none)) fd ["_law_thing"] (SpOf (rcOf K w cons) fn__law_integer 1) := by
  obtain ⟨fd, F⟩ := c.def_ 10 (d := d__law_integer)
  exact ⟨fd, F, fnD_ok (R := rcOf K w cons) (tb_10 c X G) (xt_ok c X G pnE) rfl F sc__law_integer cp__law_integer⟩
theorem tb_11 (c : SaysS PP E cons fn ts w K) (X : K.In h) (G : h.Ns mainGlobals mg) : TabOk (rcOf K w cons) PP mg base 11 f_11 cons (E.cs ms_11 cm_11 it_11 sm_11 itn_11) := by
  obtain ⟨fd, F, ok⟩ := ok_10 (base := base) c X G
  have T := (tb_10 (base := base) c X G).up (show 10 ≤ 11 by decide)
  exact TabOk.add T (c.glo X G 10 (d := d__law_integer)) F.kp ok (F.bindsN fun _ _ _ _ _ _ us hl => match us, hl with | [_], _ => rfl)
theorem ok_11 (c : SaysS PP E cons fn ts w K) (X : K.In h) (G : h.Ns mainGlobals mg) : ∃ fd, FunD K "_law_same" "_law_same" (defArgs (top 27)) (defBody (top 27)) (defScope (top 27)) [] [] (He.fAd K ("_law_same", none)) fd ∧ Sh.FnOk PP w K mg base (L2.CX PP w) 12 (He.fAd K ("_law_same", none)) fd ["_law_told", "_law_due_here"] (SpOf (rcOf K w cons) fn__law_same 2) := by
  obtain ⟨fd, F⟩ := c.def_ 11 (d := d__law_same)
  exact ⟨fd, F, fnD_ok (R := rcOf K w cons) (tb_11 c X G) (xt_ok c X G pnE) rfl F sc__law_same cp__law_same⟩
theorem tb_12 (c : SaysS PP E cons fn ts w K) (X : K.In h) (G : h.Ns mainGlobals mg) : TabOk (rcOf K w cons) PP mg base 12 f_12 cons (E.cs ms_12 cm_12 it_12 sm_12 itn_12) := by
  obtain ⟨fd, F, ok⟩ := ok_11 (base := base) c X G
  have T := (tb_11 (base := base) c X G).up (show 11 ≤ 12 by decide)
  exact TabOk.add T (c.glo X G 11 (d := d__law_same)) F.kp ok (F.bindsN fun _ _ _ _ _ _ us hl => match us, hl with | [_, _], _ => rfl)
theorem ok_12 (c : SaysS PP E cons fn ts w K) (X : K.In h) (G : h.Ns mainGlobals mg) : ∃ fd, FunD K "check_text" "check_text" (defArgs (top 11)) (defBody (top 11)) (defScope (top 11)) [] [] (He.fAd K ("check_text", none)) fd ∧ Sh.FnOk PP w K mg base (L2.CX PP w) 13 (He.fAd K ("check_text", none)) fd ["lines"] (SpOf (rcOf K w cons) fn_check_text 1) := by
  obtain ⟨fd, F⟩ := c.def_ 12 (d := d_check_text)
  exact ⟨fd, F, fnD_ok (R := rcOf K w cons) (tb_12 c X G) (xt_ok c X G pnE) rfl F sc_check_text cp_check_text⟩
theorem tb_13 (c : SaysS PP E cons fn ts w K) (X : K.In h) (G : h.Ns mainGlobals mg) : TabOk (rcOf K w cons) PP mg base 13 f_13 cons (E.cs ms_13 cm_13 it_13 sm_13 itn_13) := by
  obtain ⟨fd, F, ok⟩ := ok_12 (base := base) c X G
  have T := (tb_12 (base := base) c X G).up (show 12 ≤ 13 by decide)
  exact TabOk.add T (c.glo X G 12 (d := d_check_text)) F.kp ok (F.bindsN fun _ _ _ _ _ _ us hl => match us, hl with | [_], _ => rfl)
theorem ok_13 (c : SaysS PP E cons fn ts w K) (X : K.In h) (G : h.Ns mainGlobals mg) : ∃ fd, FunD K "__init__" "Source.__init__" (defArgs (mth 12 0)) (defBody (mth 12 0)) (defScope (mth 12 0)) [] [] (He.fAd K ("Source", some "__init__")) fd ∧ Sh.FnOk PP w K mg base (L2.CX PP w) 14 (He.fAd K ("Source", some "__init__")) fd ["self", "lines"] (SpOf (rcOf K w cons) fn_Source____init__ 2) := by
  obtain ⟨fd, F⟩ := c.def_ 13 (d := d_Source____init__)
  exact ⟨fd, F, fnD_ok (R := rcOf K w cons) (tb_13 c X G) (xt_ok c X G pnE) rfl F sc_Source____init__ cp_Source____init__⟩
theorem tb_14 (c : SaysS PP E cons fn ts w K) (X : K.In h) (G : h.Ns mainGlobals mg) : TabOk (rcOf K w cons) PP mg base 18 f_14 cons (E.cs ms_14 cm_14 it_14 sm_14 itn_14) := by
  obtain ⟨fd, F, ok⟩ := ok_13 (base := base) c X G
  have T := (tb_13 (base := base) c X G).up (show 13 ≤ 18 by decide)
  obtain ⟨m1, m2⟩ := c.mth 13 (d := d_Source____init__) (x := "Source") (m := "__init__")
  exact TabOk.addM (j := 14) (S := (E.cs ms_13 cm_13 it_13 sm_13 itn_13)) T rfl m2 m1 (by decide) (c.clx (by decide +kernel)) ok (F.bindsN fun _ _ _ _ _ _ us hl => match us, hl with | [_, _], _ => rfl) (fun hm _ => ⟨by decide, c.mkr X G hm⟩)
theorem ok_14 (c : SaysS PP E cons fn ts w K) (X : K.In h) (G : h.Ns mainGlobals mg) : ∃ fd, FunD K "text" "Source.text" (defArgs (mth 12 7)) (defBody (mth 12 7)) (defScope (mth 12 7)) [] [] (He.fAd K ("Source", some "text")) fd ∧ Sh.FnOk PP w K mg base (L2.CX PP w) 19 (He.fAd K ("Source", some "text")) fd ["self"] (SpOf (rcOf K w cons) fn_Source__text 1) := by
  obtain ⟨fd, F⟩ := c.def_ 14 (d := d_Source__text)
  exact ⟨fd, F, fnD_ok (R := rcOf K w cons) (tb_14 c X G) (xt_ok c X G pnE) rfl F sc_Source__text cp_Source__text⟩
theorem tb_15 (c : SaysS PP E cons fn ts w K) (X : K.In h) (G : h.Ns mainGlobals mg) : TabOk (rcOf K w cons) PP mg base 23 f_15 cons (E.cs ms_15 cm_15 it_15 sm_15 itn_15) := by
  obtain ⟨fd, F, ok⟩ := ok_14 (base := base) c X G
  have T := (tb_14 (base := base) c X G).up (show 18 ≤ 23 by decide)
  obtain ⟨m1, m2⟩ := c.mth 14 (d := d_Source__text) (x := "Source") (m := "text")
  exact TabOk.addM (j := 19) (S := (E.cs ms_14 cm_14 it_14 sm_14 itn_14)) T rfl m2 m1 (by decide) (c.clx (by decide +kernel)) ok (F.bindsN fun _ _ _ _ _ _ us hl => match us, hl with | [_], _ => rfl) (fun _ e => absurd e (by decide))
theorem ok_15 (c : SaysS PP E cons fn ts w K) (X : K.In h) (G : h.Ns mainGlobals mg) : ∃ fd, FunD K "_law_sourced" "_law_sourced" (defArgs (top 26)) (defBody (top 26)) (defScope (top 26)) [] [] (He.fAd K ("_law_sourced", none)) fd ∧ Sh.FnOk PP w K mg base (L2.CX PP w) 24 (He.fAd K ("_law_sourced", none)) fd ["_law_lines"] (SpOf (rcOf K w cons) fn__law_sourced 1) := by
  obtain ⟨fd, F⟩ := c.def_ 15 (d := d__law_sourced)
  exact ⟨fd, F, fnD_ok (R := rcOf K w cons) (tb_15 c X G) (xt_ok c X G pnE) rfl F sc__law_sourced cp__law_sourced⟩
theorem tb_16 (c : SaysS PP E cons fn ts w K) (X : K.In h) (G : h.Ns mainGlobals mg) : TabOk (rcOf K w cons) PP mg base 24 f_16 cons (E.cs ms_16 cm_16 it_16 sm_16 itn_16) := by
  obtain ⟨fd, F, ok⟩ := ok_15 (base := base) c X G
  have T := (tb_15 (base := base) c X G).up (show 23 ≤ 24 by decide)
  exact TabOk.add T (c.glo X G 15 (d := d__law_sourced)) F.kp ok (F.bindsN fun _ _ _ _ _ _ us hl => match us, hl with | [_], _ => rfl)
theorem ok_16 (c : SaysS PP E cons fn ts w K) (X : K.In h) (G : h.Ns mainGlobals mg) : ∃ fd, FunD K "_law_checked_text" "_law_checked_text" (defArgs (top 25)) (defBody (top 25)) (defScope (top 25)) [] [] (He.fAd K ("_law_checked_text", none)) fd ∧ Sh.FnOk PP w K mg base (L2.CX PP w) 25 (He.fAd K ("_law_checked_text", none)) fd ["_law_lines"] (SpOf (rcOf K w cons) fn__law_checked_text 1) := by
  obtain ⟨fd, F⟩ := c.def_ 16 (d := d__law_checked_text)
  exact ⟨fd, F, fnD_ok (R := rcOf K w cons) (tb_16 c X G) (xt_ok c X G pnE) rfl F sc__law_checked_text cp__law_checked_text⟩
theorem tb_17 (c : SaysS PP E cons fn ts w K) (X : K.In h) (G : h.Ns mainGlobals mg) : TabOk (rcOf K w cons) PP mg base 25 f_17 cons (E.cs ms_17 cm_17 it_17 sm_17 itn_17) := by
  obtain ⟨fd, F, ok⟩ := ok_16 (base := base) c X G
  have T := (tb_16 (base := base) c X G).up (show 24 ≤ 25 by decide)
  exact TabOk.add T (c.glo X G 16 (d := d__law_checked_text)) F.kp ok (F.bindsN fun _ _ _ _ _ _ us hl => match us, hl with | [_], _ => rfl)
theorem ok_17 (c : SaysS PP E cons fn ts w K) (X : K.In h) (G : h.Ns mainGlobals mg) : ∃ fd, FunD K "_law_asked" "_law_asked" (defArgs (top 28)) (defBody (top 28)) (defScope (top 28)) [] [] (He.fAd K ("_law_asked", none)) fd ∧ Sh.FnOk PP w K mg base (L2.CX PP w) 26 (He.fAd K ("_law_asked", none)) fd ["_law_lines"] (SpOf (rcOf K w cons) fn__law_asked 1) := by
  obtain ⟨fd, F⟩ := c.def_ 17 (d := d__law_asked)
  exact ⟨fd, F, fnD_ok (R := rcOf K w cons) (tb_17 c X G) (xt_ok c X G pnE) rfl F sc__law_asked cp__law_asked⟩
theorem tb_18 (c : SaysS PP E cons fn ts w K) (X : K.In h) (G : h.Ns mainGlobals mg) : TabOk (rcOf K w cons) PP mg base 26 f_18 cons (E.cs ms_18 cm_18 it_18 sm_18 itn_18) := by
  obtain ⟨fd, F, ok⟩ := ok_17 (base := base) c X G
  have T := (tb_17 (base := base) c X G).up (show 25 ≤ 26 by decide)
  exact TabOk.add T (c.glo X G 17 (d := d__law_asked)) F.kp ok (F.bindsN fun _ _ _ _ _ _ us hl => match us, hl with | [_], _ => rfl)
theorem ok_18 (c : SaysS PP E cons fn ts w K) (X : K.In h) (G : h.Ns mainGlobals mg) : ∃ fd, FunD K "_law_spoilt" "_law_spoilt" (defArgs (top 30)) (defBody (top 30)) (defScope (top 30)) [] [] (He.fAd K ("_law_spoilt", none)) fd ∧ Sh.FnOk PP w K mg base (L2.CX PP w) 27 (He.fAd K ("_law_spoilt", none)) fd ["_law_bag_here", "_law_rows"] (SpOf (rcOf K w cons) fn__law_spoilt 2) := by
  obtain ⟨fd, F⟩ := c.def_ 18 (d := d__law_spoilt)
  exact ⟨fd, F, fnD_ok (R := rcOf K w cons) (tb_18 c X G) (xt_ok c X G pnE) rfl F sc__law_spoilt cp__law_spoilt⟩
theorem tb_19 (c : SaysS PP E cons fn ts w K) (X : K.In h) (G : h.Ns mainGlobals mg) : TabOk (rcOf K w cons) PP mg base 27 f_19 cons (E.cs ms_19 cm_19 it_19 sm_19 itn_19) := by
  obtain ⟨fd, F, ok⟩ := ok_18 (base := base) c X G
  have T := (tb_18 (base := base) c X G).up (show 26 ≤ 27 by decide)
  exact TabOk.add T (c.glo X G 18 (d := d__law_spoilt)) F.kp ok (F.bindsN fun _ _ _ _ _ _ us hl => match us, hl with | [_, _], _ => rfl)
theorem ok_19 (c : SaysS PP E cons fn ts w K) (X : K.In h) (G : h.Ns mainGlobals mg) : ∃ fd, FunD K "_law_text" "_law_text" (defArgs (top 21)) (defBody (top 21)) (defScope (top 21)) [] [] (He.fAd K ("_law_text", none)) fd ∧ Sh.FnOk PP w K mg base (L2.CX PP w) 28 (He.fAd K ("_law_text", none)) fd ["_law_bag_here"] (SpOf (rcOf K w cons) fn__law_text 1) := by
  obtain ⟨fd, F⟩ := c.def_ 19 (d := d__law_text)
  exact ⟨fd, F, fnD_ok (R := rcOf K w cons) (tb_19 c X G) (xt_ok c X G pnE) rfl F sc__law_text cp__law_text⟩
theorem tb_20 (c : SaysS PP E cons fn ts w K) (X : K.In h) (G : h.Ns mainGlobals mg) : TabOk (rcOf K w cons) PP mg base 28 f_20 cons (E.cs ms_20 cm_20 it_20 sm_20 itn_20) := by
  obtain ⟨fd, F, ok⟩ := ok_19 (base := base) c X G
  have T := (tb_19 (base := base) c X G).up (show 27 ≤ 28 by decide)
  exact TabOk.add T (c.glo X G 19 (d := d__law_text)) F.kp ok (F.bindsN fun _ _ _ _ _ _ us hl => match us, hl with | [_], _ => rfl)
theorem ok_20 (c : SaysS PP E cons fn ts w K) (X : K.In h) (G : h.Ns mainGlobals mg) : ∃ fd, FunD K "_law_bag" "_law_bag" (defArgs (top 14)) (defBody (top 14)) (defScope (top 14)) [] [] (He.fAd K ("_law_bag", none)) fd ∧ Sh.FnOk PP w K mg base (L2.CX PP w) 29 (He.fAd K ("_law_bag", none)) fd ["_law_script"] (SpOf (rcOf K w cons) fn__law_bag 1) := by
  obtain ⟨fd, F⟩ := c.def_ 20 (d := d__law_bag)
  exact ⟨fd, F, fnD_ok (R := rcOf K w cons) (tb_20 c X G) (xt_ok c X G pnE) rfl F sc__law_bag cp__law_bag⟩
theorem tb_21 (c : SaysS PP E cons fn ts w K) (X : K.In h) (G : h.Ns mainGlobals mg) : TabOk (rcOf K w cons) PP mg base 29 f_21 cons (E.cs ms_21 cm_21 it_21 sm_21 itn_21) := by
  obtain ⟨fd, F, ok⟩ := ok_20 (base := base) c X G
  have T := (tb_20 (base := base) c X G).up (show 28 ≤ 29 by decide)
  exact TabOk.add T (c.glo X G 20 (d := d__law_bag)) F.kp ok (F.bindsN fun _ _ _ _ _ _ us hl => match us, hl with | [_], _ => rfl)
theorem ok_21 (c : SaysS PP E cons fn ts w K) (X : K.In h) (G : h.Ns mainGlobals mg) : ∃ fd, FunD K "law" "law" (defArgs (top 31)) (defBody (top 31)) (defScope (top 31)) [] [] (He.fAd K ("law", none)) fd ∧ Sh.FnOk PP w K mg base (L2.CX PP w) 30 (He.fAd K ("law", none)) fd ["_law_script"] (SpOf (rcOf K w cons) fn_law 1) := by
  obtain ⟨fd, F⟩ := c.def_ 21 (d := d_law)
  exact ⟨fd, F, fnD_ok (R := rcOf K w cons) (tb_21 c X G) (xt_ok c X G pnE) rfl F sc_law cp_law⟩
end
theorem facts {w : World} {K : PySem.W.Frag} {h : Heap} {mg : Str → Option Value} {f : Addr} (X : K.In h) (G : h.Ns mainGlobals mg) (hfa : mg ("law" : Str) = some (.ref f)) (c : SaysS PP E cons fn ts w K) :
    ∃ fd : FuncData, (∀ (s : Shared) (v : Value), BindsTo s fd ⟨[v], []⟩ [("_law_script", v)]) ∧ ∀ base : Heap, K.In base → base.Ns mainGlobals mg → Sh.FnOk PP w K mg base (L2.CX PP w) 30 f fd ["_law_script"] (SpOf (rcOf K w cons) fn_law 1) := by
  obtain ⟨fd, F⟩ := c.def_ 21 (d := d_law)
  have e := hfa.symm.trans (c.glo X G 21 (d := d_law))
  cases e
  have b := FunD.bindsA (ps := ["_law_script"]) F fun _ _ _ _ _ _ us hl => match us, hl with | [_], _ => rfl
  exact ⟨fd, fun s v => b s [v] rfl, fun base _ _ => fnD_ok (R := rcOf K w cons) (tb_21 c X G) (xt_ok c X G pnE) rfl F sc_law cp_law⟩
end K20

set_option Elab.async false
set_option linter.all false
set_option maxRecDepth 100000
set_option maxHeartbeats 4000000
namespace K20
open PySem L2 PyProof.Rows Sh
theorem sp : (" " : Str) = S [32] := rfl
theorem em : ("" : Str) = S [] := rfl
def SGs : Str := match c_SIGNS with
  | .str x => x
  | _ => ""
def SG : List Nat := SGs.cps.toList
def Ln (x : List Nat) : Prop := x.length ≤ 200 ∧ ∀ d ∈ x, d ∈ SG
def Gd (rows : List (List Nat)) : Prop := rows.length ≤ 200 ∧ ∀ x ∈ rows, Ln x
def rowsA (rows : List (List Nat)) : List AV := rows.map fun x => .str (S x)
def isB : Nat → Bool := fun d => ([32] : List Nat).contains d
theorem isB_32 : isB 32 = true := rfl
theorem isB_eq {d : Nat} : isB d = decide (d = 32) := by simp [isB]
theorem sg_eq : c_SIGNS = .str (S SG) := by
  show AV.str SGs = AV.str (S SGs.cps.toList)
  rw [← S_eta]
theorem rows_len {rows : List (List Nat)} : (rowsA rows).length = rows.length := by simp [rowsA]
end K20

set_option Elab.async false
set_option linter.all false
set_option maxRecDepth 100000
set_option maxHeartbeats 4000000
namespace K20
open PySem L2 PyProof.Rows Sh
theorem fold_app : ∀ (ks : List (Array Nat)) (acc : Array Nat), (ks.foldl (· ++ ·) acc).toList = acc.toList ++ (ks.map Array.toList).flatten
  | [], acc => by simp
  | k :: ks, acc => by
    rw [List.foldl_cons, fold_app ks]
    simp
theorem mul_S {l : List Nat} {k : Nat} (hk : 1 ≤ k) : Txt.mul (S l) (k : Int) = S (List.replicate k l).flatten := by
  unfold Txt.mul
  rw [if_neg (by omega)]
  by_cases h : ((k : Int) == 1 || (S l).length == 0) = true
  · rw [if_pos h]
    rw [Bool.or_eq_true] at h
    rcases h with h | h
    · have : k = 1 := by
        have h' : (k : Int) = 1 := by simpa using h
        omega
      subst this
      simp
    · have hl : l = [] := by
        rw [S_len] at h
        exact List.length_eq_zero_iff.mp (by simpa using h)
      subst hl
      simp
  · rw [if_neg h]
    have e := fold_app (List.replicate k (S l).cps) #[]
    have e2 : (List.replicate k (S l).cps).map Array.toList = List.replicate k l := by simp [S]
    rw [e2] at e
    show Str.mk _ = Str.mk _
    congr 1
    rw [← Array.toList_inj]
    simpa using e
theorem opMul_S {A : AH} {l : List Nat} {k : Nat} (hk : 1 ≤ k) (h2 : k ≤ 1000) (hl : l.length ≤ 1000) : opMul (.str (S l)) (.int (k : Int)) A = .ok (.str (S (List.replicate k l).flatten)) A := by
  have hm : (S l).length * (k : Int).toNat ≤ sizeLine := by
    rw [S_len, szL]
    have : l.length * (k : Int).toNat ≤ 1000 * 1000 := Nat.mul_le_mul hl (by omega)
    omega
  have h0 : (0 : Int) ≤ k := by omega
  unfold opMul
  simp only [h0, hm, true_and, and_true]
  rw [if_pos (by omega), mul_S hk]
@[irreducible] def rep200 (l : List Nat) : List Nat := (List.replicate 200 l).flatten
theorem rep200_len {l : List Nat} : (rep200 l).length = 200 * l.length := by unfold rep200; rw [List.length_flatten, List.map_replicate, List.sum_replicate_nat]
theorem opMul_200 {A : AH} {l : List Nat} (hl : l.length ≤ 1000) : opMul (.str (S l)) (.int 200) A = .ok (.str (S (rep200 l))) A := by
  have e : (200 : Int) = ((200 : Nat) : Int) := by omega
  have h : ∀ k : Nat, k = 200 → opMul (.str (S l)) (.int (k : Int)) A = .ok (.str (S (List.replicate k l).flatten)) A := fun k hk => opMul_S (by omega) (by omega) hl
  have e2 : rep200 l = (List.replicate 200 l).flatten := by unfold rep200; rfl
  rw [e, e2]
  exact h 200 rfl
theorem rep_mem {α : Type} {l : List α} {k : Nat} {x : α} (h : x ∈ (List.replicate k l).flatten) : x ∈ l := by
  obtain ⟨m, hm, hx⟩ := List.mem_flatten.mp h
  rw [(List.mem_replicate.mp hm).2] at hx
  exact hx
theorem rep200_mem {l : List Nat} {d : Nat} (h : d ∈ rep200 l) : d ∈ l := by
  unfold rep200 at h
  exact rep_mem h
theorem ln_take {x : List Nat} {k : Nat} (h : ∀ d ∈ x, d ∈ SG) (hk : k ≤ 200) : Ln (x.take k) := ⟨by simp; omega, fun d hd => h d (List.mem_of_mem_take hd)⟩
theorem sg_32 : 32 ∈ SG := by decide +kernel
theorem sg_len : 94 ≤ SG.length := by decide +kernel
theorem sg_len2 : SG.length ≤ 200 := by decide +kernel
section
variable {A : AH} {v : AV} {g : Bag} {T : AH} {kv : Kr AV}
theorem signs_eq : fn__law_signs [] A = .ok (.str (S SG)) A := by
  apply eq_of_W; apply run_W
  simp only [sh__law_signs]
  simp
  have : (opAdd (.str " !\"#$&'()*+,-./0123456789:;<=>?\x40ABCDEFGHIJKLMNOPQRSTUVWXYZ[\\]^_`") (.str "abcdefghijklmnopqrstuvwxyz{|}~") A) = .ok c_SIGNS A := rfl
  rw [this, sg_eq]
  simp
theorem sg_at {k : Int} (h0 : 0 ≤ k) (h1 : k < 94) : ∃ d, d ∈ SG ∧ ∀ A, opIx (.str (S SG)) (.int k) A = .ok (.str (S [d])) A := by
  have hk : k.toNat < SG.length := by have := sg_len; omega
  exact ⟨SG[k.toNat], List.getElem_mem hk, fun A => ix_S (by have := sg_len2; omega) h0 (List.getElem?_eq_getElem hk)⟩
theorem any_sign_W (hv : ∀ d g', d ∈ SG → kv.V (.str (S [d])) (hp g' T)) : @Res.W AV (fn__law_any_sign [.ref 1] (hp g T)) kv := by
  apply run_W
  simp only [sh__law_any_sign]
  simp
  refine pick_W (by omega) (by omega) fun k g1 k1 k2 => ?_
  by_cases c : k = 0
  · simp [c, cEq_i, -cEq_int, sp]
    exact hv 32 g1 sg_32
  · simp [c, cEq_i, -cEq_int, g__law_signs, signs_eq]
    refine pick_W (by omega) (by omega) fun d g2 d1 d2 => ?_
    obtain ⟨e, he, hix⟩ := sg_at d1 d2
    simp [hix]
    exact hv e g2 he
def sgA (ds : List Nat) : List AV := ds.map fun d => .str (S [d])
def InvA (T : AH) (k : Nat) (acc : List AV) (A' : AH) : Prop := ∃ g ds, A' = hp g T ∧ acc = sgA ds ∧ ds.length = k ∧ ∀ d ∈ ds, d ∈ SG
theorem signs_lc {n : Nat} {ℓ0 : LSt} {kl : Kr (List AV)} (hn : n ≤ 1000) (hv0 : ∀ v A, eVar 0 (ℓ0.set 4 (some v)) A = .ok (.ref 1) A)
    (hv : ∀ ds g', ds.length = n → (∀ d ∈ ds, d ∈ SG) → kl.V (sgA ds) (hp g' T)) :
    @Res.W (List AV) (lcLoop (wPure (rangeA 0 n)) (gNm 4) tYesF (eCall g__law_any_sign (aCons (eVar 0) aNil)) ℓ0 (wPure (rangeA 0 n)).n 0 [] (hp g T)) kl := by
  refine lcW (fun ns acc A' => InvA T ns acc A') (n := n) (by rw [szL]; omega) ?_ ?_ _ _ _ _ (by show 0 + (rangeA 0 n).length = _; rw [range_len]; omega) (by simp) ⟨g, [], rfl, rfl, rfl, by simp⟩
  · rintro q acc A' hq _ ⟨g1, ds, rfl, rfl, hl, hs⟩
    refine ⟨_, _, range_at hq, rfl, ?_⟩
    simp [hv0, g__law_any_sign]
    refine any_sign_W fun d g2 hd => ⟨g2, ds ++ [d], rfl, by simp [sgA], by simp [hl], ?_⟩
    intro e he
    rcases List.mem_append.mp he with h | h
    · exact hs e h
    · rw [List.mem_singleton.mp h]; exact hd
  · rintro acc A' _ ⟨g1, ds, rfl, rfl, hl, hs⟩
    exact ⟨rfl, hv ds g1 hl hs⟩
theorem join_sg {A : AH} {n : Nat} {ds : List Nat} (h : A.lst? n = some (sgA ds)) (hl : ds.length ≤ 1000) : mJoin (.str (S [])) [.ref n] A = .ok (.str (S ds)) A := by
  have e : sgA ds = (ds.map fun d => [d]).map fun l => AV.str (S l) := by simp [sgA]
  have e2 : (ds.map fun d => [d]).flatten = ds := by
    clear h hl e
    induction ds with
    | nil => rfl
    | cons a r ih => simpa using ih
  have := mJoin_S (A := A) (n := n) (ls := ds.map fun d => [d]) (by rw [h, e]) (by
    rw [List.map_map]
    have : (ds.map (List.length ∘ fun d => [d])).sum = ds.length := by
      clear h e e2 hl
      induction ds with
      | nil => rfl
      | cons a r ih => simp at ih ⊢; omega
    rw [this]; omega)
  rw [e2] at this
  exact this
theorem line_W (hv : ∀ x g' T', Gr T T' → Ln x → kv.V (.str (S x)) (hp g' T')) : @Res.W AV (fn__law_line [.ref 1] (hp g T)) kv := by
  apply run_W
  simp only [sh__law_line]
  simp
  refine pick_W (by omega) (by omega) fun k g1 k1 k2 => ?_
  by_cases c0 : k = 0
  · simp [c0, cEq_i, -cEq_int, em]
    exact hv [] g1 T (Gr.refl _) ⟨by simp, by simp⟩
  by_cases c1 : k = 1
  · simp [c1, cEq_i, -cEq_int, sp]
    refine pick_W (by omega) (by omega) fun d g2 d1 d2 => ?_
    simp
    rw [opIx_lst (xs := [.int 1, .int 2, .int 7, .int 199, .int 200]) (by simp)]
    refine atA_W d1 (by simpa using d2) fun hk => ?_
    have h5 : ∃ j : Nat, 1 ≤ j ∧ j ≤ 200 ∧ [AV.int 1, .int 2, .int 7, .int 199, .int 200][d.toNat] = .int (j : Int) := by
      have h5 : d.toNat = 0 ∨ d.toNat = 1 ∨ d.toNat = 2 ∨ d.toNat = 3 ∨ d.toNat = 4 := by omega
      rcases h5 with e | e | e | e | e <;> simp only [e]
      · exact ⟨1, by omega, by omega, rfl⟩
      · exact ⟨2, by omega, by omega, rfl⟩
      · exact ⟨7, by omega, by omega, rfl⟩
      · exact ⟨199, by omega, by omega, rfl⟩
      · exact ⟨200, by omega, by omega, rfl⟩
    obtain ⟨j, j1, j2, e⟩ := h5
    rw [e]
    show @Res.W AV (opMul (.str (S [32])) (.int (j : Int)) _) _
    rw [opMul_S j1 (by omega) (by simp)]
    exact hv _ _ _ Gr.one ⟨by simp; omega, fun d hd => by
      have := rep_mem hd
      rw [List.mem_singleton.mp this]; exact sg_32⟩
  · simp [c0, c1, cEq_i, -cEq_int]
    refine pick_W (by omega) (by omega) fun z g2 z1 z2 => ?_
    have fin : ∀ (w : Int) (g' : Bag), 1 ≤ w → w ≤ 24 → @SRes.W (((sSeq (sSet 3 (eBM .str mJoin (eC (.str "")) (aCons (eLc (iRange (aCons (eVar 2) aNil)) (gNm 4) tYesF (eCall g__law_any_sign (aCons (eVar 0) aNil)) [4]) aNil)))
  (sSeq (sIf (tOfE (eOp cEq (eVar 1) (eC (.int 2))))
  (sRet (eSl (eOp opMul (eVar 3) (eC (.int 200))) oNone (oSome (eOp opSub (eC (.int 200)) (eCall g__law_pick (aCons (eVar 0) (aCons (eC (.int 3)) aNil)))))))
  sNext)
  (sRet (eVar 3)))) : SF) [some (.ref 1), some (.int k), some (.int w), none, none] (hp g' T)) ⟨fun _ A => kv.V .non A, kv.V, fun c fs _ A => kv.X c fs A, fun _ _ => False, fun _ _ => False⟩ := by
      intro w g' w1 w2
      have h62 : (-4611686018427387904 : Int) ≤ w ∧ w < 4611686018427387904 := by omega
      simp [h62, -rangeAS]
      refine signs_lc (n := w.toNat) (by omega) (fun _ _ => rfl) fun ds g3 hl hs => ?_
      have hj : ∀ g, mJoin (.str (S [])) [.ref (T.length + 2)] (hp g (T ++ [.lst (sgA ds)])) = .ok (.str (S ds)) (hp g (T ++ [.lst (sgA ds)])) := fun g => join_sg (by show AH.lst? (T ++ [.lst (sgA ds)]) T.length = _; simp) (by omega)
      simp [em, hj]
      by_cases c2 : k = 2
      · have hm : ∀ A, opMul (.str (S ds)) (.int 200) A = .ok (.str (S (rep200 ds))) A := fun A => opMul_200 (by omega)
        simp [c2, cEq_i, -cEq_int, hm]
        refine pick_W (by omega) (by omega) fun d g4 d1 d2 => ?_
        have e1 : (200 - d : Int) = (((200 - d).toNat : Nat) : Int) := by omega
        have hlf : (rep200 ds).length ≤ 16777216 := by rw [rep200_len]; omega
        simp
        rw [e1, sl_S_take hlf]
        exact hv _ _ _ Gr.one (ln_take (fun d hd => hs d (rep200_mem hd)) (by omega))
      · simp [c2, cEq_i, -cEq_int]
        exact hv ds _ _ Gr.one ⟨by omega, hs⟩
    by_cases c4 : k < 4
    · simp [c4]
      refine pick_W (by omega) (by omega) fun y g3 y1 y2 => ?_
      have := fin (1 + y) g3 (by omega) (by omega)
      simp at this ⊢
      exact this
    · simp [c4]
      have := fin (1 + z) g2 (by omega) (by omega)
      simpa using this
end
end K20

set_option Elab.async false
set_option linter.all false
set_option maxRecDepth 100000
set_option maxHeartbeats 4000000
namespace K20
open PySem L2 PyProof.Rows Sh
@[irreducible] def rep200A (l : List AV) : List AV := repV l 200
theorem rep200A_len {l : List AV} : (rep200A l).length = 200 * l.length := by unfold rep200A repV; rw [List.length_flatten, List.map_replicate, List.sum_replicate_nat]
@[irreducible] def rep200R (l : List (List Nat)) : List (List Nat) := (List.replicate 200 l).flatten
theorem rep200R_eq {l : List (List Nat)} : rep200A (rowsA l) = rowsA (rep200R l) := by
  unfold rep200A rep200R repV rowsA
  rw [List.map_flatten, List.map_replicate]
theorem rep200R_mem {l : List (List Nat)} {x : List Nat} (h : x ∈ rep200R l) : x ∈ l := by
  unfold rep200R at h
  exact rep_mem h
theorem mulL_200 {A : AH} {n : Nat} {xs : List AV} (h : A.lst? n = some xs) (hl : xs.length ≤ 1000) : opMul (.ref n) (.int 200) A = .ok (.ref A.length) (A ++ [.lst (rep200A xs)]) := by
  have hm : xs.length * (200 : Int).toNat ≤ sizeLine := by
    rw [szL]
    have h1 : (200 : Int).toNat = 200 := rfl
    rw [h1]
    omega
  unfold opMul
  simp only [h, hm, and_true]
  rw [if_pos (by omega)]
  unfold rep200A
  rfl
section
variable {A : AH} {v : AV} {g : Bag} {T : AH} {kv : Kr AV}
def InvX (T : AH) (k : Nat) (acc : List AV) (A' : AH) : Prop := ∃ g T' rows, A' = hp g T' ∧ Gr T T' ∧ acc = rowsA rows ∧ rows.length = k ∧ ∀ x ∈ rows, Ln x
theorem lines_lc {n : Nat} {ℓ0 : LSt} {kl : Kr (List AV)} (hn : n ≤ 1000) (hv0 : ∀ v A, eVar 0 (ℓ0.set 3 (some v)) A = .ok (.ref 1) A)
    (hv : ∀ rows g' T', Gr T T' → rows.length = n → (∀ x ∈ rows, Ln x) → kl.V (rowsA rows) (hp g' T')) :
    @Res.W (List AV) (lcLoop (wPure (rangeA 0 n)) (gNm 3) tYesF (eCall g__law_line (aCons (eVar 0) aNil)) ℓ0 (wPure (rangeA 0 n)).n 0 [] (hp g T)) kl := by
  refine lcW (fun ns acc A' => InvX T ns acc A') (n := n) (by rw [szL]; omega) ?_ ?_ _ _ _ _ (by show 0 + (rangeA 0 n).length = _; rw [range_len]; omega) (by simp) ⟨g, T, [], rfl, Gr.refl _, rfl, rfl, by simp⟩
  · rintro q acc A' hq _ ⟨g1, T1, rows, rfl, gr, rfl, hl, hs⟩
    refine ⟨_, _, range_at hq, rfl, ?_⟩
    simp [hv0, g__law_line]
    refine line_W fun x g2 T2 gr2 hx => ⟨g2, T2, rows ++ [x], rfl, gr.trans gr2, by simp [rowsA], by simp [hl], ?_⟩
    intro e he
    rcases List.mem_append.mp he with h | h
    · exact hs e h
    · rw [List.mem_singleton.mp h]; exact hx
  · rintro acc A' _ ⟨g1, T1, rows, rfl, gr, rfl, hl, hs⟩
    exact ⟨rfl, hv rows g1 T1 gr hl hs⟩
theorem text_W (hv : ∀ rows t g' T', Gr T T' → Gd rows → T'.lst? t = some (rowsA rows) → kv.V (.ref (t + 2)) (hp g' T')) : @Res.W AV (fn__law_text [.ref 1] (hp g T)) kv := by
  apply run_W
  simp only [sh__law_text]
  simp
  refine pick_W (by omega) (by omega) fun m g1 m1 m2 => ?_
  have h62 : (-4611686018427387904 : Int) ≤ m ∧ m < 4611686018427387904 := by omega
  simp [h62, -rangeAS]
  refine lines_lc (n := m.toNat) (by omega) (fun _ _ => rfl) fun rows g2 T2 gr2 hl hs => ?_
  have hgd : Gd rows := ⟨by omega, hs⟩
  have stay : ∀ g', kv.V (.ref (T2.length + 2)) (hp g' (T2 ++ [.lst (rowsA rows)])) := fun g' => hv rows T2.length g' _ (gr2.app _) hgd (by simp)
  by_cases c : 0 < m
  · simp [c]
    refine pick_W (by omega) (by omega) fun k g3 k1 k2 => ?_
    by_cases c2 : k = 0
    · have hlst : AH.lst? (T2 ++ [.lst (rowsA rows)]) T2.length = some (rowsA rows) := by simp
      simp [c2, cEq_i, -cEq_int]
      refine lcL (fun v => match v with | .str y => .str (S (y.cps.toList.take 30)) | v => v) (by show AH.lst? (T2 ++ [.lst (rowsA rows)]) T2.length = _; simp) (by rw [rows_len, szL]; omega) (fun _ _ => rfl) ?_ ?_
      · intro v hv'
        obtain ⟨z, hz, rfl⟩ := List.mem_map.mp hv'
        have := sl_S_take (A := hp g3 (T2 ++ [.lst (rowsA rows)])) (l := z) (k := 30) (by have := (hs z hz).1; omega)
        apply eq_of_W
        have e30 : ((30 : Nat) : Int) = 30 := rfl
        rw [e30] at this
        simp [wipeA, this, S_cps]
      · have em2 : (rowsA rows).map (fun v => match v with | .str y => .str (S (y.cps.toList.take 30)) | v => v) = rowsA (rows.map (List.take 30)) := by
          unfold rowsA
          rw [List.map_map, List.map_map]
          refine List.map_congr_left fun z _ => ?_
          show AV.str (S ((S z).cps.toList.take 30)) = _
          rw [S_cps]
          rfl
        rw [em2]
        have hm2 : ∀ g, opMul (.ref (T2.length + 1 + 2)) (.int 200) (hp g (T2 ++ [.lst (rowsA rows), .lst (rowsA (rows.map (List.take 30)))])) = .ok (.ref (T2.length + 2 + 2)) (hp g (T2 ++ [.lst (rowsA rows), .lst (rowsA (rows.map (List.take 30))), .lst (rowsA (rep200R (rows.map (List.take 30))))])) := fun g => by
          rw [mulL_200 (xs := rowsA (rows.map (List.take 30))) (by show AH.lst? (T2 ++ [AO.lst (rowsA rows), .lst (rowsA (rows.map (List.take 30)))]) (T2.length + 1) = _; simp) (by rw [rows_len]; simp; omega), rep200R_eq]
          simp
        simp [hm2]
        refine pick_W (by omega) (by omega) fun d g4 d1 d2 => ?_
        have hb : ∀ xs : List AV, cutA xs none (some (200 - d)) = xs.take (200 - d).toNat := fun xs => cut_take (by omega)
        simp [hb]
        have hR : Gd ((rep200R (rows.map (List.take 30))).take (200 - d).toNat) := ⟨by simp; omega, fun x hx => by
          obtain ⟨z, hz, rfl⟩ := List.mem_map.mp (rep200R_mem (List.mem_of_mem_take hx))
          exact ln_take (hs z hz).2 (by omega)⟩
        exact hv _ (T2.length + 3) g4 _ (gr2.app _) hR (by simp [rowsA, List.map_take])
    · simp [c2, cEq_i, -cEq_int]
      exact stay g3
  · simp [c]
    exact stay g2
end
end K20

set_option Elab.async false
set_option linter.all false
set_option maxRecDepth 100000
set_option maxHeartbeats 4000000
namespace K20
open PySem L2 PyProof.Rows Sh
section
variable {A : AH} {l : List Nat} {c : Nat}
theorem has_S : hasIn (.str (S [c])) (.str (S l)) A = some (decide (c ∈ l)) := by
  show some (!(Builtin.Str.occurrences (S l) (S [c]) 0 (S l).length 1).isEmpty) = _
  have h := occ_go (l := l) (c := c) (l.length + 1) 0 0 (by omega) (by omega)
  rw [S_len, StrLaws.occ_eq]
  simp only [Nat.sub_zero] at h ⊢
  rw [h]
  by_cases hc : c ∈ l
  · have : nxP (fun d => !(d == c)) l 0 < l.length := by
      have h1 := nxP_le (p := fun d => !(d == c)) (l := l) (lo := 0) (by omega)
      have h2 : ¬ nxP (fun d => !(d == c)) l 0 = l.length := fun z => by
        have := List.all_eq_true.mp (nxP_all.mp z) c hc
        simp at this
      omega
    rw [if_pos this]
    simp [hc]
  · have : ¬ nxP (fun d => !(d == c)) l 0 < l.length := by
      have h2 : nxP (fun d => !(d == c)) l 0 = l.length := nxP_all.mpr (List.all_eq_true.mpr fun d hd => by
        have : d ≠ c := fun e => hc (e ▸ hd)
        simpa using this)
      omega
    rw [if_neg this]
    simp [hc]
theorem notin_S : cNotIn (.str (S [c])) (.str (S l)) A = .ok (.bl (!decide (c ∈ l))) A := by
  unfold cNotIn
  rw [has_S]
end
end K20

set_option Elab.async false
set_option linter.all false
set_option maxRecDepth 100000
set_option maxHeartbeats 4000000
namespace K20
open PySem L2 PyProof.Rows Sh
/-! ### things that stand in the place of lines -/
def Tx (y : List Nat) : Prop := y.length ≤ 201 ∧ ∀ d ∈ y, d < 1000
theorem sg_small : ∀ d ∈ SG, d < 1000 := by
  have : (SG.all fun d => decide (d < 1000)) = true := by decide +kernel
  exact fun d hd => of_decide_eq_true (List.all_eq_true.mp this d hd)
theorem Ln.tx {x : List Nat} (h : Ln x) : Tx x := ⟨by have := h.1; omega, fun d hd => sg_small d (h.2 d hd)⟩
/-- an odd object -/
def Ob (A : AH) (q : Nat) : Prop := A.lst? q = some [] ∨ (∃ y, A.lst? q = some [.str (S y)] ∧ Tx y) ∨ A.dct? q = some [] ∨ A.dct? q = some [(.inr ("a" : Str), .int 1)]
def Th (A : AH) (v : AV) : Prop := (∃ y, v = .str (S y) ∧ Tx y) ∨ v ∈ ([.non, .int 0, .int 7, .bl true, .int 5, .int (-1)] : List AV) ∨ (∃ y, v = .tup [.str (S y)] ∧ Tx y) ∨ ∃ q, v = .ref q ∧ 2 ≤ q ∧ Ob A q
def goodS (y : List Nat) : Bool := decide (y.length ≤ 200) && y.all fun d => decide (d ∈ SG)
def gd : AV → Bool
  | .str s => goodS s.cps.toList
  | _ => false
theorem gd_S {y : List Nat} : gd (.str (S y)) = goodS y := by
  show goodS (S y).cps.toList = _
  rw [S_cps]
section
variable {A : AH} {v : AV} {y : List Nat}
theorem sg_len200 : SG.length ≤ 200 := sg_len2
theorem is_line_S (h : Tx y) : fn_is_line [.str (S y)] A = .ok (.bl (goodS y)) A := by
  have hl : bLen [.str (S y)] A = .ok (.int y.length) A := len_S (by have := h.1; omega)
  have hs : mLstrip (.str (S y)) [c_SIGNS] A = .ok (.str (S (y.drop (nxP (fun d => SG.contains d) y 0)))) A := by
    rw [sg_eq]
    show (if (S y).length ≤ sizeLine then Res.ok (AV.str (Txt.lstripChars (S y) (S SG))) A else .bad) = _
    rw [S_len, szL, if_pos (by have := h.1; omega), lstrip_S]
  have ep : (fun d => SG.contains d) = fun d => decide (d ∈ SG) := by funext d; simp
  rw [ep] at hs
  have e : decide (y.drop (nxP (fun d => decide (d ∈ SG)) y 0) = []) = y.all fun d => decide (d ∈ SG) := by
    rw [Bool.eq_iff_iff, decide_eq_true_eq]
    have h1 := nxP_le (p := fun d => decide (d ∈ SG)) (l := y) (lo := 0) (by omega)
    constructor
    · intro q
      have h2 : nxP (fun d => decide (d ∈ SG)) y 0 = y.length := by
        have := congrArg List.length q
        simp at this
        omega
      have := nxP_all.mp h2
      simpa using this
    · intro q
      have : nxP (fun d => decide (d ∈ SG)) y 0 = y.length := nxP_all.mpr (by simpa using q)
      rw [this, List.drop_length]
  apply eq_of_W; apply run_W
  simp only [sh_is_line]
  by_cases h200 : (y.length : Int) ≤ 200
  · have h' : y.length ≤ 200 := by omega
    simp [btOf, BT.of, BT.sub, hl, c_MOST_SIGNS, h200, hs, em, eq_S, -List.drop_eq_nil_iff]
    rw [e]
    simp [goodS, h']
  · have h' : ¬ y.length ≤ 200 := by omega
    simp [btOf, BT.of, BT.sub, hl, c_MOST_SIGNS, h200, goodS, h']
theorem bt_dct {n : Nat} {xs : List (Key × AV)} (h : A.dct? n = some xs) : btOf (.ref n) A = some .dct := by
  unfold btOf
  simp only [dct_at h]
theorem notstr (h : Th A v) (hn : ∀ y, v ≠ .str (S y)) : bIsi [v, .ty "str"] A = .ok (.bl false) A := by
  rcases h with ⟨y, rfl, _⟩ | h | ⟨y, rfl, _⟩ | ⟨q, rfl, _, h | ⟨y, h, _⟩ | h | h⟩
  · exact absurd rfl (hn y)
  · simp only [List.mem_cons, List.not_mem_nil, or_false] at h
    rcases h with h | h | h | h | h | h <;> subst h <;> rfl
  · rfl
  · simp [bt_lst h]; rfl
  · simp [bt_lst h]; rfl
  · simp [bt_dct h]; rfl
  · simp [bt_dct h]; rfl
theorem Th.cases (h : Th A v) : (∃ y, v = .str (S y) ∧ Tx y) ∨ ((∀ y, v ≠ .str (S y)) ∧ gd v = false) := by
  rcases h with h | h | ⟨y, rfl, _⟩ | ⟨q, rfl, _⟩
  · exact .inl h
  · simp only [List.mem_cons, List.not_mem_nil, or_false] at h
    rcases h with h | h | h | h | h | h <;> subst h <;> exact .inr ⟨fun y e => (by cases e), rfl⟩
  · exact .inr ⟨fun y e => (by cases e), rfl⟩
  · exact .inr ⟨fun y e => (by cases e), rfl⟩
theorem is_line (h : Th A v) : fn_is_line [v] A = .ok (.bl (gd v)) A := by
  rcases h.cases with ⟨y, rfl, ht⟩ | ⟨hn, hg⟩
  · rw [gd_S]
    exact is_line_S ht
  · have := notstr h hn
    apply eq_of_W; apply run_W
    simp only [sh_is_line]
    simp [-isi1, this, hg]
theorem good_S (h : Tx y) : fn__law_good [.str (S y)] A = .ok (.bl (goodS y)) A := by
  have hl : bLen [.str (S y)] A = .ok (.int y.length) A := len_S (by have := h.1; omega)
  apply eq_of_W; apply run_W
  simp only [sh__law_good]
  by_cases h200 : 200 < (y.length : Int)
  · have h' : ¬ y.length ≤ 200 := by omega
    simp [btOf, BT.of, BT.sub, hl, h200, goodS, h']
  · have h' : y.length ≤ 200 := by omega
    simp [btOf, BT.of, BT.sub, hl, h200, g__law_signs, signs_eq, signs_S]
    refine forP (fun k ℓ A' => A' = A ∧ (y.take k).all (fun d => decide (d ∈ SG)) = true ∧ ∃ z, ℓ = [some (.str (S y)), some (.str (S SG)), z]) ⟨rfl, by simp, none, rfl⟩ ?_ ?_
    · rintro k x ℓ A' hx ⟨rfl, ha, z, rfl⟩
      rw [List.getElem?_map] at hx
      cases hy : y[k]? with
      | none => rw [hy] at hx; cases hx
      | some d =>
        rw [hy] at hx
        cases hx
        have hd : d ∈ y := List.mem_of_getElem? hy
        by_cases hc : d ∈ SG
        · simp [notin_S, hc]
          rw [List.take_add_one, hy]
          simp
          intro x hx
          rcases hx with hx | rfl
          · simpa using List.all_eq_true.mp ha x hx
          · exact hc
        · have : goodS y = false := by
            unfold goodS
            rw [Bool.and_eq_false_iff]
            refine .inr (Bool.eq_false_iff.mpr fun z => ?_)
            have := List.all_eq_true.mp z d hd
            simp [hc] at this
          simp [notin_S, hc, this]
    · rintro ℓ A' ⟨rfl, ha, z, rfl⟩
      rw [List.length_map, List.take_length] at ha
      have : goodS y = true := by unfold goodS; rw [ha]; simp [h']
      simp [this]
theorem good (h : Th A v) : fn__law_good [v] A = .ok (.bl (gd v)) A := by
  rcases h.cases with ⟨y, rfl, ht⟩ | ⟨hn, hg⟩
  · rw [gd_S]
    exact good_S ht
  · have := notstr h hn
    apply eq_of_W; apply run_W
    simp only [sh__law_good]
    simp [-isi1, this, hg]
end
end K20

set_option Elab.async false
set_option linter.all false
set_option maxRecDepth 100000
set_option maxHeartbeats 4000000
namespace K20
open PySem L2 PyProof.Rows Sh
/-! ### what is shown of the lines -/
theorem dct_lst {A : AH} {q : Nat} {xs : List (Key × AV)} (h : A.dct? q = some xs) : A.lst? q = none := by
  unfold AH.lst?
  rw [dct_at h]
theorem datasP_mono {f g : AV → Option PyData} (hf : ∀ v d, f v = some d → g v = some d) : ∀ {xs : List AV} {ds : List PyData}, datasP f xs = some ds → datasP g xs = some ds
  | [], ds, h => h
  | x :: xs, ds, h => by
    unfold datasP at h ⊢
    split at h
    · rename_i d ds' e1 e2
      cases h
      rw [hf _ _ e1, datasP_mono hf e2]
    · cases h
theorem datasKv_mono {f g : AV → Option PyData} (hf : ∀ v d, f v = some d → g v = some d) : ∀ {xs : List (Key × AV)} {ds : List (PyData × PyData)}, datasKv f xs = some ds → datasKv g xs = some ds
  | [], ds, h => h
  | (k, x) :: xs, ds, h => by
    unfold datasKv at h ⊢
    split at h
    · rename_i d ds' e1 e2
      cases h
      rw [hf _ _ e1, datasKv_mono hf e2]
    · cases h
theorem lst_grow {A U : AH} {q : Nat} {xs : List AV} (h : A.lst? q = some xs) : (A ++ U).lst? q = some xs := by
  unfold AH.lst?
  rw [List.getElem?_append_left (List.getElem?_eq_some_iff.mp (lst_at h)).1]
  exact h
theorem dct_grow {A U : AH} {q : Nat} {xs : List (Key × AV)} (h : A.dct? q = some xs) : (A ++ U).dct? q = some xs := by
  unfold AH.dct?
  rw [List.getElem?_append_left (List.getElem?_eq_some_iff.mp (dct_at h)).1]
  exact h
theorem dataP_app {A U : AH} : ∀ (n : Nat) (v : AV) (d : PyData), dataP n A v = some d → dataP n (A ++ U) v = some d
  | 0, _, _, h => by cases h
  | n + 1, v, d, h => by
    have ih := fun v d => dataP_app (A := A) (U := U) n v d
    cases v with
    | tup xs =>
      obtain ⟨ds, e1, e2⟩ := Option.map_eq_some_iff.mp (show (datasP (dataP n A) xs).map PyData.tuple = some d from h)
      show (datasP (dataP n (A ++ U)) xs).map PyData.tuple = some d
      rw [datasP_mono ih e1]
      exact congrArg some e2
    | fl xs =>
      obtain ⟨ds, e1, e2⟩ := Option.map_eq_some_iff.mp (show (datasP (dataP n A) xs).map PyData.list = some d from h)
      show (datasP (dataP n (A ++ U)) xs).map PyData.list = some d
      rw [datasP_mono ih e1]
      exact congrArg some e2
    | ref r =>
      unfold dataP at h ⊢
      simp only at h ⊢
      split at h
      · rename_i xs e0
        rw [lst_grow e0]
        obtain ⟨ds, e1, e2⟩ := Option.map_eq_some_iff.mp h
        simp only
        rw [datasP_mono ih e1]
        exact congrArg some e2
      · split at h
        · rename_i kvs e0
          rw [dct_lst (dct_grow e0), dct_grow e0]
          obtain ⟨ds, e1, e2⟩ := Option.map_eq_some_iff.mp h
          simp only
          rw [datasKv_mono ih e1]
          exact congrArg some e2
        · cases h
    | _ => exact h
theorem piled_le {c : Nat} : ∀ {ts : List Str}, (∀ t ∈ ts, t.length ≤ c) → piled ts ≤ (c + 2) * ts.length
  | [], _ => by simp [piled]
  | t :: r, h => by
    have h1 := h t (by simp)
    have h2 := piled_le (ts := r) fun x hx => h x (by simp [hx])
    have e : piled (t :: r) = t.length + 2 + piled r := by simp [piled]
    rw [e, List.length_cons, Nat.mul_add]
    omega
theorem listText_le (ts : List Str) : (listText ts).length ≤ piled ts + 2 := by
  unfold listText
  rw [strLen_append]
  cases ts with
  | nil => show _ + 1 ≤ _; simp [textFrom, piled]; decide
  | cons t r =>
    show (textFrom 1 ("[" ++ (if (0 : Nat) > 0 then ", " else "" : String) ++ t) r).length + 1 ≤ _
    rw [textFrom_length_pos r 1 _ (by omega), strLen_append, strLen_append]
    have e : piled (t :: r) = t.length + 2 + piled r := by simp [piled]
    rw [e]
    show 1 + 0 + t.length + piled r + 1 ≤ _
    omega
theorem tupleText_le (ts : List Str) : (tupleText ts).length ≤ piled ts + 3 := by
  unfold tupleText
  rw [strLen_append, strLen_append]
  have h3 : ((if ts.length == 1 then ",)" else ")" : String) : Str).length ≤ 2 := by split <;> decide
  by_cases h : ts = []
  · subst h
    show 1 + 0 + 1 ≤ _
    omega
  · have := join_length_add ts h
    show 1 + (Str.join ", " ts).length + _ ≤ _
    omega
theorem shownAll_eq : ∀ ds : List PyData, PyData.shownAll ds = ds.map PyData.shown
  | [] => rfl
  | d :: ds => by unfold PyData.shownAll; rw [shownAll_eq ds]; rfl
theorem showableAll_eq : ∀ ds : List PyData, (∀ d ∈ ds, d.showable = true) → PyData.showableAll ds = true
  | [], _ => rfl
  | d :: ds, h => by
    unfold PyData.showableAll
    rw [h d (by simp), showableAll_eq ds fun x hx => h x (by simp [hx])]
    rfl
theorem depthAll_le {m : Nat} : ∀ ds : List PyData, (∀ d ∈ ds, d.depth ≤ m) → PyData.depthAll ds ≤ m
  | [], _ => by simp [PyData.depthAll]
  | d :: ds, h => by
    unfold PyData.depthAll
    exact Nat.max_le.mpr ⟨h d (by simp), depthAll_le ds fun x hx => h x (by simp [hx])⟩
/-- a datum that is small -/
structure Sm (c m : Nat) (d : PyData) : Prop where
  s : d.showable = true
  l : d.shown.length ≤ c
  p : d.depth ≤ m
theorem Sm.list {c m : Nat} {ds : List PyData} (h : ∀ d ∈ ds, Sm c m d) : Sm ((c + 2) * ds.length + 3) (m + 1) (.list ds) := by
  refine ⟨?_, ?_, ?_⟩
  · unfold PyData.showable; exact showableAll_eq ds fun d hd => (h d hd).s
  · unfold PyData.shown
    rw [shownAll_eq]
    have h1 := listText_le (ds.map PyData.shown)
    have h2 := piled_le (c := c) (ts := ds.map PyData.shown) fun t ht => by
      obtain ⟨d, hd, rfl⟩ := List.mem_map.mp ht
      exact (h d hd).l
    rw [List.length_map] at h2
    omega
  · unfold PyData.depth
    have := depthAll_le ds fun d hd => (h d hd).p
    omega
theorem Sm.tuple {c m : Nat} {ds : List PyData} (h : ∀ d ∈ ds, Sm c m d) : Sm ((c + 2) * ds.length + 3) (m + 1) (.tuple ds) := by
  refine ⟨?_, ?_, ?_⟩
  · unfold PyData.showable; exact showableAll_eq ds fun d hd => (h d hd).s
  · unfold PyData.shown
    rw [shownAll_eq]
    have h1 := tupleText_le (ds.map PyData.shown)
    have h2 := piled_le (c := c) (ts := ds.map PyData.shown) fun t ht => by
      obtain ⟨d, hd, rfl⟩ := List.mem_map.mp ht
      exact (h d hd).l
    rw [List.length_map] at h2
    omega
  · unfold PyData.depth
    have := depthAll_le ds fun d hd => (h d hd).p
    omega
theorem Sm.str {y : List Nat} (h : Tx y) : Sm 2012 0 (.str (S y)) := by
  refine ⟨rfl, ?_, Nat.zero_le _⟩
  show (reprText (S y)).length ≤ 2012
  have := StrLaws.reprText_len (S y) fun c hc => by
    rw [S_cps] at hc
    have := h.2 c hc
    have e : (16 : Nat) ^ 8 = 4294967296 := by decide
    omega
  rw [S_len] at this
  have := h.1
  omega
theorem Sm.mono {c c' m m' : Nat} {d : PyData} (h : Sm c m d) (hc : c ≤ c') (hm : m ≤ m') : Sm c' m' d := ⟨h.s, Nat.le_trans h.l hc, Nat.le_trans h.p hm⟩
end K20

set_option Elab.async false
set_option linter.all false
set_option maxRecDepth 100000
set_option maxHeartbeats 4000000
namespace K20
open PySem L2 PyProof.Rows Sh
def isLs (v : AV) (A : AH) (xs : List AV) : Prop := v = .tup xs ∨ ∃ t, v = .ref t ∧ A.lst? t = some xs
/-- what is no list and no tuple -/
def Od (A : AH) (v : AV) : Prop := (∃ y, v = .str (S y) ∧ Tx y) ∨ v ∈ ([.non, .int 0, .int 7, .bl true, .int 5, .int (-1)] : List AV) ∨ ∃ q, v = .ref q ∧ 2 ≤ q ∧ (A.dct? q = some [] ∨ A.dct? q = some [(.inr ("a" : Str), .int 1)])
/-- what is passed as lines -/
def LV (A : AH) (v : AV) : Option (List AV) → Prop
  | some xs => isLs v A xs ∧ (∀ x ∈ xs, Th A x) ∧ xs.length ≤ 1000
  | none => Od A v
section
variable {A U : AH} {v : AV} {xs : List AV}
theorem Od.th (h : Od A v) : Th A v := by
  rcases h with h | h | ⟨q, h1, h2, h3⟩
  · exact .inl h
  · exact .inr (.inl h)
  · exact .inr (.inr (.inr ⟨q, h1, h2, .inr (.inr h3)⟩))
theorem Th.app (h : Th A v) : Th (A ++ U) v := by
  rcases h with h | h | h | ⟨q, h1, h2, h⟩
  · exact .inl h
  · exact .inr (.inl h)
  · exact .inr (.inr (.inl h))
  · refine .inr (.inr (.inr ⟨q, h1, h2, ?_⟩))
    rcases h with h | ⟨y, h, hy⟩ | h | h
    · exact .inl (lst_grow h)
    · exact .inr (.inl ⟨y, lst_grow h, hy⟩)
    · exact .inr (.inr (.inl (dct_grow h)))
    · exact .inr (.inr (.inr (dct_grow h)))
theorem Od.app (h : Od A v) : Od (A ++ U) v := by
  rcases h with h | h | ⟨q, h1, h2, h⟩
  · exact .inl h
  · exact .inr (.inl h)
  · exact .inr (.inr ⟨q, h1, h2, h.imp dct_grow dct_grow⟩)
theorem isLs.app (h : isLs v A xs) : isLs v (A ++ U) xs := by
  rcases h with h | ⟨t, h1, h2⟩
  · exact .inl h
  · exact .inr ⟨t, h1, lst_grow h2⟩
theorem LV.app {o : Option (List AV)} (h : LV A v o) : LV (A ++ U) v o := by
  cases o with
  | none => exact Od.app h
  | some xs => exact ⟨h.1.app, fun x hx => (h.2.1 x hx).app, h.2.2⟩
theorem th_data (h : Th A v) (n : Nat) : ∃ d, dataP (n + 3) A v = some d ∧ Sm 2100 1 d := by
  rcases h with ⟨y, rfl, hy⟩ | h | ⟨y, rfl, hy⟩ | ⟨q, rfl, _, h | ⟨y, h, hy⟩ | h | h⟩
  · exact ⟨_, rfl, (Sm.str hy).mono (by omega) (by omega)⟩
  · simp only [List.mem_cons, List.not_mem_nil, or_false] at h
    rcases h with h | h | h | h | h | h <;> subst h <;> exact ⟨_, rfl, by decide +kernel, by decide +kernel, by decide +kernel⟩
  · refine ⟨.tuple [.str (S y)], rfl, (Sm.tuple (c := 2012) (m := 0) fun d hd => ?_).mono (by simp) (by omega)⟩
    rw [List.mem_singleton.mp hd]
    exact Sm.str hy
  · refine ⟨.list [], by simp [dataP, h, datasP], (Sm.list (c := 0) (m := 0) fun d hd => by cases hd).mono (by simp) (by omega)⟩
  · refine ⟨.list [.str (S y)], by simp [dataP, h, datasP], (Sm.list (c := 2012) (m := 0) fun d hd => ?_).mono (by simp) (by omega)⟩
    rw [List.mem_singleton.mp hd]
    exact Sm.str hy
  · refine ⟨.dict [], by simp [dataP, dct_lst h, h, datasKv], by decide +kernel, by decide +kernel, by decide +kernel⟩
  · refine ⟨.dict [(.str "a", .int 1)], by simp [dataP, dct_lst h, h, datasKv, keyP], by decide +kernel, by decide +kernel, by decide +kernel⟩
theorem ths_data : ∀ {xs : List AV} (n : Nat), (∀ x ∈ xs, Th A x) → ∃ ds, datasP (dataP (n + 3) A) xs = some ds ∧ ds.length = xs.length ∧ ∀ d ∈ ds, Sm 2100 1 d
  | [], n, _ => ⟨[], rfl, rfl, fun d hd => by cases hd⟩
  | x :: xs, n, h => by
    obtain ⟨d, h1, h2⟩ := th_data (h x (by simp)) n
    obtain ⟨ds, h3, h4, h5⟩ := ths_data (xs := xs) n fun y hy => h y (by simp [hy])
    refine ⟨d :: ds, by unfold datasP; rw [h1, h3], by simp [h4], fun e he => ?_⟩
    rcases List.mem_cons.mp he with rfl | he
    · exact h2
    · exact h5 e he
/-- lines are shown alike as long as nothing is changed -/
theorem lv_repr {o : Option (List AV)} (h : LV A v o) : ∃ s : Str, ∀ U, bRepr [v] (A ++ U) = .ok (.str s) (A ++ U) := by
  have key : ∀ d c m, dataP 8 A v = some d → Sm c m d → c ≤ 16777216 → m ≤ 16 → ∃ s : Str, ∀ U, bRepr [v] (A ++ U) = .ok (.str s) (A ++ U) := fun d c m e s hc hm =>
    ⟨d.shown, fun U => bRepr_ok (dataP_app 8 v d e) s.s (by rw [sizeLine_eq]; exact Nat.le_trans s.l hc) (Nat.le_trans s.p hm)⟩
  cases o with
  | none =>
    obtain ⟨d, h1, h2⟩ := th_data (Od.th h) 5
    exact key d _ _ h1 h2 (by omega) (by omega)
  | some xs =>
    obtain ⟨hv, ht, hl⟩ := h
    obtain ⟨ds, h1, h2, h3⟩ := ths_data 4 ht
    have hb : (2100 + 2) * ds.length + 3 ≤ 16777216 := by rw [h2]; omega
    rcases hv with rfl | ⟨t, rfl, hv⟩
    · exact key (.tuple ds) _ _ (by show (datasP (dataP 7 A) xs).map PyData.tuple = _; rw [h1]; rfl) (Sm.tuple h3) hb (by omega)
    · exact key (.list ds) _ _ (by unfold dataP; simp only [hv, h1]; rfl) (Sm.list h3) hb (by omega)
end
end K20

set_option Elab.async false
set_option linter.all false
set_option maxRecDepth 100000
set_option maxHeartbeats 4000000
namespace K20
open PySem L2 PyProof.Rows Sh
/-! ### the answer that is due -/
def fbA : List AV → Option Nat
  | [] => none
  | x :: xs => if gd x = true then (fbA xs).map (· + 1) else some 0
def ct : Option (List AV) → Option Int
  | none => some (-1)
  | some xs => if 200 < xs.length then some (-1) else (fbA xs).map fun (i : Nat) => (i : Int)
theorem ct_eq {xs : List AV} : ct (some xs) = if 200 < xs.length then some (-1) else (fbA xs).map fun (i : Nat) => (i : Int) := rfl
def dueV (o : Option (List AV)) : AV := match ct o with
  | some i => .tup [.str "BadText", .int i]
  | none => .tup [.str "told", .tup (o.getD [])]
theorem fb_here : ∀ {xs : List AV} {k : Nat} {x : AV}, xs[k]? = some x → gd x = false → (∀ j, j < k → ∀ x, xs[j]? = some x → gd x = true) → fbA xs = some k
  | [], k, x, h, _, _ => by simp at h
  | y :: ys, 0, x, h, hg, _ => by
    simp at h
    subst h
    simp [fbA, hg]
  | y :: ys, k + 1, x, h, hg, ha => by
    have h1 := ha 0 (by omega) y rfl
    have h2 := fb_here (xs := ys) (k := k) (x := x) (by simpa using h) hg fun j hj x hx => ha (j + 1) (by omega) x (by simpa using hx)
    simp [fbA, h1, h2]
theorem fb_all : ∀ {xs : List AV}, (∀ j, j < xs.length → ∀ x, xs[j]? = some x → gd x = true) → fbA xs = none
  | [], _ => rfl
  | y :: ys, ha => by
    have h1 := ha 0 (by simp) y rfl
    have h2 := fb_all (xs := ys) fun j hj x hx => ha (j + 1) (by simp; omega) x (by simpa using hx)
    simp [fbA, h1, h2]
theorem fb_lt : ∀ {xs : List AV} {k : Nat}, fbA xs = some k → k < xs.length
  | [], k, h => by cases h
  | y :: ys, k, h => by
    unfold fbA at h
    split at h
    · obtain ⟨j, h1, rfl⟩ := Option.map_eq_some_iff.mp h
      have := fb_lt h1
      simp; omega
    · cases h
      simp
section
variable {A : AH} {v : AV} {xs : List AV} {o : Option (List AV)} {kv : Kr AV}
theorem isLs.len (h : isLs v A xs) : bLen [v] A = .ok (.int xs.length) A := by
  rcases h with rfl | ⟨t, rfl, h⟩
  · rfl
  · simp [h]
theorem isLs.tp (h : isLs v A xs) : bTuple [v] A = .ok (.tup xs) A := by
  rcases h with rfl | ⟨t, rfl, h⟩
  · rfl
  · simp [h]
theorem isLs.isi (h : isLs v A xs) : bIsi [v, .tup [.ty "list", .ty "tuple"]] A = .ok (.bl true) A := by
  rcases h with rfl | ⟨t, rfl, h⟩
  · rfl
  · simp [bt_lst h]; decide
theorem isLs.ix (h : isLs v A xs) {i : Int} : opIx v (.int i) A = atA xs i A := by
  rcases h with rfl | ⟨t, rfl, h⟩
  · rfl
  · exact opIx_lst h
theorem isLs.en (h : isLs v A xs) : ∃ w, enR v A = .ok w A ∧ w.n = xs.length ∧ w.stop A = true ∧ ∀ k x, xs[k]? = some x → w.get k A = some (.tup [.int (k : Int), x]) := by
  rcases h with rfl | ⟨t, rfl, h⟩
  · exact ⟨wEnP xs, rfl, rfl, rfl, fun k x hx => by show (xs[k]?).map _ = _; rw [hx]; rfl⟩
  · refine ⟨wEnL t xs, enR_lst h, rfl, ?_, fun k x hx => ?_⟩
    · show (match A.lst? t with | some ys => ys.length == xs.length | none => false) = true
      rw [h]
      simp
    · show ((A.lst? t).bind _).map _ = _
      rw [h]
      simp [hx]
theorem isLs.wk (h : isLs v A xs) : ∃ w, asWalk v A = .ok w A ∧ w.n = xs.length ∧ w.stop A = true ∧ ∀ k x, xs[k]? = some x → w.get k A = some x := by
  rcases h with rfl | ⟨t, rfl, h⟩
  · exact ⟨wPure xs, rfl, rfl, rfl, fun k x hx => hx⟩
  · refine ⟨wLst t xs, by simp [h], rfl, ?_, fun k x hx => ?_⟩
    · show (match A.lst? t with | some ys => ys.length == xs.length | none => false) = true
      rw [h]
      simp
    · show (A.lst? t).bind _ = _
      rw [h]
      exact hx
theorem Od.isi (h : Od A v) : bIsi [v, .tup [.ty "list", .ty "tuple"]] A = .ok (.bl false) A := by
  rcases h with ⟨y, rfl, _⟩ | h | ⟨q, rfl, _, h | h⟩
  · rfl
  · simp only [List.mem_cons, List.not_mem_nil, or_false] at h
    rcases h with h | h | h | h | h | h <;> subst h <;> rfl
  · simp [bt_dct h]; decide
  · simp [bt_dct h]; decide
def InvC (v : AV) (A : AH) (xs : List AV) (k : Nat) (ℓ : LSt) (A' : AH) : Prop := A' = A ∧ (∀ j, j < k → ∀ x, xs[j]? = some x → gd x = true) ∧ ∃ a b, ℓ = [some v, a, b]
theorem inv_succ {k : Nat} {x : AV} (ha : ∀ j, j < k → ∀ x, xs[j]? = some x → gd x = true) (hx : xs[k]? = some x) (hg : gd x = true) : ∀ j, j < k + 1 → ∀ x, xs[j]? = some x → gd x = true := fun j hj z hz => by
  by_cases e : j = k
  · subst e
    rw [hx] at hz
    cases hz
    exact hg
  · exact ha j (by omega) z hz
theorem lv_check (h : LV A v o) (hx : ∀ i, ct o = some i → kv.X "BadText" [("line", .int i)] A) (hv : ct o = none → kv.V (.tup (o.getD [])) A) : @Res.W AV (fn_check_text [v] A) kv := by
  apply run_W
  simp only [sh_check_text]
  cases o with
  | none =>
    simp [-isi2, Od.isi h]
    exact hx _ rfl
  | some xs =>
    obtain ⟨hl, ht, _⟩ := h
    by_cases h200 : 200 < xs.length
    · have h2 : (200 : Int) < xs.length := by omega
      simp [-isi2, hl.isi, hl.len, c_MOST_LINES, h2]
      exact hx (-1) (by simp [ct, h200])
    · have h2 : ¬ (200 : Int) < xs.length := by omega
      obtain ⟨w, e1, e2, e3, e4⟩ := hl.en
      simp [-isi2, hl.isi, hl.len, c_MOST_LINES, h2, e1]
      refine forW (InvC v A xs) (n := xs.length) ?_ ?_ _ _ _ _ (by omega) ⟨rfl, fun j hj => by omega, _, _, rfl⟩
      · rintro k ℓ A' hk ⟨rfl, ha, x0, y0, rfl⟩
        have hk' := List.getElem?_eq_getElem hk
        refine ⟨_, [some v, some (.int (k : Int)), some xs[k]], e4 k _ hk', rfl, ?_⟩
        cases hg : gd xs[k] with
        | true =>
          simp [g_is_line, is_line (ht _ (List.getElem_mem hk)), hg]
          exact ⟨rfl, inv_succ ha hk' hg, _, _, rfl⟩
        | false =>
          simp [g_is_line, is_line (ht _ (List.getElem_mem hk)), hg]
          exact hx k (by simp [ct, h200, fb_here hk' hg ha])
      · rintro ℓ A' ⟨rfl, ha, x0, y0, rfl⟩
        refine ⟨e3, ?_⟩
        simp [hl.tp]
        exact hv (by simp [ct, h200, fb_all ha])
theorem due_ok (h : LV A v o) : fn__law_due [v] A = .ok (dueV o) A := by
  apply eq_of_W; apply run_W
  simp only [sh__law_due]
  cases o with
  | none =>
    simp [-isi2, Od.isi h]
    rfl
  | some xs =>
    obtain ⟨hl, ht, hc⟩ := h
    by_cases h200 : 200 < xs.length
    · have h2 : (200 : Int) < xs.length := by omega
      simp [-isi2, hl.isi, hl.len, h2]
      simp [dueV, ct, h200]
    · have h2 : ¬ (200 : Int) < xs.length := by omega
      have h62 : (-4611686018427387904 : Int) ≤ xs.length ∧ (xs.length : Int) < 4611686018427387904 := by omega
      simp [-isi2, hl.isi, hl.len, h2, h62, -rangeAS]
      refine forR (fun k ℓ A' => A' = A ∧ (∀ j, j < k → ∀ x, xs[j]? = some x → gd x = true) ∧ ∃ a, ℓ = [some v, a]) ⟨rfl, fun j hj => by omega, _, rfl⟩ ?_ ?_
      · rintro k ℓ A' hk ⟨rfl, ha, x0, rfl⟩
        have hk' := List.getElem?_eq_getElem hk
        have hi : atA xs (k : Int) A' = .ok xs[k] A' := atA_get (by omega) (by simpa using hk')
        cases hg : gd xs[k] with
        | true =>
          simp [hl.ix, hi, g__law_good, good (ht _ (List.getElem_mem hk)), hg]
          exact inv_succ ha hk' hg
        | false =>
          simp [hl.ix, hi, g__law_good, good (ht _ (List.getElem_mem hk)), hg]
          simp [dueV, ct, h200, fb_here hk' hg ha]
      · rintro ℓ A' ⟨rfl, ha, x0, rfl⟩
        simp [hl.tp]
        simp [dueV, ct, h200, fb_all ha]
theorem each_ok (hl : isLs v A xs) (ht : ∀ x ∈ xs, Th A x) : fn__law_each [v] A = .ok (.bl true) A := by
  obtain ⟨w, e1, e2, e3, e4⟩ := hl.wk
  apply eq_of_W; apply run_W
  simp only [sh__law_each]
  simp [e1, -asWalk_ref]
  refine forW (fun k ℓ A' => A' = A ∧ ∃ a b, ℓ = [some v, a, b]) (n := xs.length) ?_ ?_ _ _ _ _ (by omega) ⟨rfl, _, _, rfl⟩
  · rintro k ℓ A' hk ⟨rfl, x0, y0, rfl⟩
    have hm := ht _ (List.getElem_mem hk)
    refine ⟨_, [some v, some xs[k], y0], e4 k _ (List.getElem?_eq_getElem hk), rfl, ?_⟩
    have s1 : cNe (.bl (gd xs[k])) (.bl (gd xs[k])) A' = .ok (.bl false) A' := cNe_self dat_bl
    simp [g_is_line, is_line hm, g__law_good, good hm, show BT.bl.sub BT.bl = true from rfl, s1]
  · rintro ℓ A' ⟨rfl, x0, y0, rfl⟩
    exact ⟨e3, by simp⟩
end
end K20

set_option Elab.async false
set_option linter.all false
set_option maxRecDepth 100000
set_option maxHeartbeats 4000000
namespace K20
open PySem L2 PyProof.Rows Sh
theorem fb_none : ∀ {xs : List AV}, fbA xs = none → ∀ x ∈ xs, gd x = true
  | [], _, x, h => by cases h
  | y :: ys, h, x, hx => by
    unfold fbA at h
    split at h
    · rename_i hy
      rcases List.mem_cons.mp hx with rfl | hx
      · exact hy
      · exact fb_none (by simpa using h) x hx
    · cases h
theorem goodS_ln {y : List Nat} (h : goodS y = true) : Ln y := by
  unfold goodS at h
  rw [Bool.and_eq_true, decide_eq_true_eq] at h
  exact ⟨h.1, fun d hd => by simpa using List.all_eq_true.mp h.2 d hd⟩
theorem lns {A : AH} : ∀ {xs : List AV}, (∀ x ∈ xs, Th A x) → (∀ x ∈ xs, gd x = true) → ∃ rows : List (List Nat), xs = rowsA rows ∧ ∀ x ∈ rows, Ln x
  | [], _, _ => ⟨[], rfl, fun x h => by cases h⟩
  | y :: ys, h1, h2 => by
    obtain ⟨rows, e, hr⟩ := lns (xs := ys) (fun x hx => h1 x (by simp [hx])) (fun x hx => h2 x (by simp [hx]))
    have hy := h2 y (by simp)
    rcases (h1 y (by simp)).cases with ⟨z, rfl, _⟩ | ⟨_, hz⟩
    · rw [gd_S] at hy
      refine ⟨z :: rows, by simp [rowsA, e], fun x hx => ?_⟩
      rcases List.mem_cons.mp hx with rfl | hx
      · exact goodS_ln hy
      · exact hr x hx
    · rw [hz] at hy
      cases hy
section
variable {A : AH} {v : AV} {xs : List AV} {o : Option (List AV)} {kv : Kr AV}
theorem ct_none (h : LV A v o) (hn : ct o = none) : ∃ rows, o = some (rowsA rows) ∧ Gd rows := by
  cases o with
  | none => cases hn
  | some xs =>
    rw [ct_eq] at hn
    by_cases h2 : 200 < xs.length
    · rw [if_pos h2] at hn
      cases hn
    · rw [if_neg h2] at hn
      obtain ⟨rows, e, hr⟩ := lns h.2.1 (fb_none (by simpa using hn))
      subst e
      exact ⟨rows, rfl, by rw [rows_len] at h2; omega, hr⟩
theorem ct_some {i : Int} (hn : ct (some xs) = some i) : (i = -1 ∧ 200 < xs.length) ∨ (0 ≤ i ∧ i < xs.length ∧ xs.length ≤ 200) := by
  rw [ct_eq] at hn
  by_cases h2 : 200 < xs.length
  · rw [if_pos h2] at hn
    cases hn
    exact .inl ⟨rfl, h2⟩
  · rw [if_neg h2] at hn
    obtain ⟨j, h1, rfl⟩ := Option.map_eq_some_iff.mp hn
    have := fb_lt h1
    exact .inr ⟨by omega, by omega, by omega⟩
theorem xt : isxTR isx "BadText" ["NoEnd", "BadBlock"] A = .ok (.bl false) A := isxTR_ok (by decide +kernel)
theorem checked (h : LV A v o) : fn__law_checked_text [v] A = .ok (dueV o) A := by
  apply eq_of_W; apply run_W
  simp only [sh__law_checked_text]
  simp [g_check_text]
  refine lv_check h (fun i hi => ?_) (fun hn => ?_)
  · simp [xt, dueV, hi]
  · simp [dueV, hn]
def srcO (v : AV) : AO := .ins "Source" [("kept_lines", v), ("line", .int 0), ("column", .int 0)]
theorem sourced_W (h : LV A v o) (k : ∀ U, kv.V (dueV o) (A ++ U)) : @Res.W AV (fn__law_sourced [v] A) kv := by
  apply run_W
  simp only [sh__law_sourced]
  simp [g_Source____init__]
  apply run_W
  simp only [sh_Source____init__]
  simp [g_check_text]
  refine lv_check h.app (fun i hi => ?_) (fun hn => ?_)
  · simp [xt]
    have := k [.ins "Source" []]
    simpa [dueV, hi] using this
  · obtain ⟨w, hw⟩ : ∃ w, w = AV.tup (o.getD []) := ⟨_, rfl⟩
    have at_end : ∀ o : AO, (A ++ [o])[A.length]? = some o := fun o => by simp
    have ins_at : ∀ o : List (Str × AV), AH.ins? (A ++ [.ins "Source" o]) A.length = some (("Source" : Str), o) := fun o => by
      unfold AH.ins?
      rw [at_end]
    have set_end : ∀ o o' : AO, (A ++ [o]).set A.length o' = A ++ [o'] := fun o o' => by
      rw [List.set_append_right (h := Nat.le_refl _), Nat.sub_self]
      rfl
    have h1 : ∀ ℓ K, @SRes.W (fldSR (fun c => decide ((c, ("kept_lines" : Str)) ∈ noat)) "kept_lines" w (.ref A.length) ℓ (A ++ [.ins "Source" []])) K = K.N ℓ (A ++ [.ins "Source" [("kept_lines", w)]]) := fun ℓ K => by
      rw [fldS_ok (ins_at []) (by decide +kernel) (by show (0 : Nat) < 1000; omega), set_end]
      rfl
    have h2 : ∀ ℓ K, @SRes.W (fldSR (fun c => decide ((c, ("line" : Str)) ∈ noat)) "line" (.int 0) (.ref A.length) ℓ (A ++ [.ins "Source" [("kept_lines", w)]])) K = K.N ℓ (A ++ [.ins "Source" [("kept_lines", w), ("line", .int 0)]]) := fun ℓ K => by
      rw [fldS_ok (ins_at _) (by decide +kernel) (by show (1 : Nat) < 1000; omega), set_end]
      rfl
    have h3 : ∀ ℓ K, @SRes.W (fldSR (fun c => decide ((c, ("column" : Str)) ∈ noat)) "column" (.int 0) (.ref A.length) ℓ (A ++ [.ins "Source" [("kept_lines", w), ("line", .int 0)]])) K = K.N ℓ (A ++ [srcO w]) := fun ℓ K => by
      rw [fldS_ok (ins_at _) (by decide +kernel) (by show (2 : Nat) < 1000; omega), set_end]
      rfl
    have h4 : fldGR (fun c => decide ((c, ("kept_lines" : Str)) ∈ noat)) "kept_lines" (.ref A.length) (A ++ [srcO w]) = .ok w (A ++ [srcO w]) := fldG_ok (ins_at _) (by decide +kernel) rfl
    have := k [srcO w]
    rw [← hw]
    simp
    rw [h1]
    simp
    rw [h2]
    simp
    rw [h3]
    simp
    have h5 : AH.ins? (A ++ [srcO w]) A.length = some (("Source" : Str), [(("kept_lines" : Str), w), ("line", .int 0), ("column", .int 0)]) := ins_at _
    rw [meth_W h5 (g := ⟨fn_Source__text, 1, [], false⟩) rfl rfl]
    simp
    apply run_W
    simp only [sh_Source__text]
    simp [h4]
    simpa [dueV, hn, ← hw] using this
theorem integer_ok {i : Int} : fn__law_integer [.int i] A = .ok (.bl true) A := by
  apply eq_of_W; apply run_W
  simp [sh__law_integer, show BT.int.sub BT.int = true from rfl, show BT.int.sub BT.bl = false from rfl]
theorem same_ok (h : LV A v o) (B : AH) : fn__law_same [dueV o, dueV o] B = .ok (.bl true) B := by
  have s1 : ∀ x : Str, cNe (.str x) (.str x) B = .ok (.bl false) B := fun x => cNe_self dat_str
  have s2 : ∀ x : Str, cEq (.str x) (.str x) B = .ok (.bl true) B := fun x => cEq_self dat_str
  apply eq_of_W; apply run_W
  simp only [sh__law_same]
  cases hc : ct o with
  | some i =>
    have s3 : cEq (.int i) (.int i) B = .ok (.bl true) B := cEq_self dat_int
    simp [dueV, hc, s1, s2, s3, g__law_integer, integer_ok, -cEq_int]
  | none =>
    obtain ⟨rows, rfl, hg⟩ := ct_none h hc
    have s3 : cEq (.tup (rowsA rows)) (.tup (rowsA rows)) B = .ok (.bl true) B := by
      have e : rowsA rows = (rows.map S).map .str := by simp [rowsA]
      rw [e]
      exact cEq_self (dat_tup (dats_strs _))
    have s4 : cEq (.str "told") (.str "BadText") B = .ok (.bl false) B := rfl
    simp [dueV, hc, s1, s4, s3, show BT.tup.sub BT.tup = true from rfl]
theorem asked_W (h : LV A v o) (k : ∀ U, kv.V (.bl true) (A ++ U)) : @Res.W AV (fn__law_asked [v] A) kv := by
  obtain ⟨s, hs⟩ := lv_repr h
  have hs0 := hs []
  rw [List.append_nil] at hs0
  have s2 : ∀ (x : Str) B, cEq (.str x) (.str x) B = .ok (.bl true) B := fun x B => cEq_self dat_str
  apply run_W
  simp only [sh__law_asked]
  simp [hs0, g__law_due, due_ok h, g__law_checked_text, checked h, g__law_same, same_ok h, g__law_sourced]
  refine sourced_W h fun U => ?_
  simp [same_ok h, hs, s2]
  exact k U
end
end K20

set_option Elab.async false
set_option linter.all false
set_option maxRecDepth 100000
set_option maxHeartbeats 4000000
namespace K20
open PySem L2 PyProof.Rows Sh
theorem pick_eq : fn__law_pick = fnPick := g__law_pick_fn
theorem choice_eq : fn__law_choice = fnChoice := g__law_choice_fn
theorem hp_dct {g : Bag} {T : AH} {k : Nat} : AH.dct? (hp g T) (k + 2) = AH.dct? T k := rfl
theorem nl : ("\n" : Str) = S [10] := rfl
theorem tb : ("	" : Str) = S [9] := rfl
theorem qq : ("q" : Str) = S [113] := rfl
@[irreducible] def rep201 (c : Nat) : List Nat := List.replicate 201 c
theorem rep201_len {c : Nat} : (rep201 c).length = 201 := by unfold rep201; exact List.length_replicate
theorem rep201_mem {c d : Nat} (h : d ∈ rep201 c) : d = c := by
  unfold rep201 at h
  exact (List.mem_replicate.mp h).2
theorem opMul_201 {A : AH} {c : Nat} : opMul (.str (S [c])) (.int 201) A = .ok (.str (S (rep201 c))) A := by
  have e : (201 : Int) = ((201 : Nat) : Int) := by omega
  have h : ∀ k : Nat, k = 201 → opMul (.str (S [c])) (.int (k : Int)) A = .ok (.str (S (List.replicate k [c]).flatten)) A := fun k hk => opMul_S (by omega) (by omega) (by simp)
  have e2 : rep201 c = (List.replicate 201 [c]).flatten := by
    unfold rep201
    have : ∀ k : Nat, List.replicate k c = (List.replicate k [c]).flatten := fun k => by
      induction k with
      | zero => rfl
      | succ k ih => rw [List.replicate_succ, List.replicate_succ, List.flatten_cons, ← ih]; rfl
    exact this 201
  rw [e, e2]
  exact h 201 rfl
section
variable {A : AH} {v : AV} {g g' : Bag} {T T' : AH} {kv : Kr AV} {y : List Nat}
theorem Th.gr (h : Th (hp g T) v) (gr : Gr T T') : Th (hp g' T') v := by
  obtain ⟨U, rfl⟩ := gr
  rcases h with h | h | h | ⟨q, h1, h2, h⟩
  · exact .inl h
  · exact .inr (.inl h)
  · exact .inr (.inr (.inl h))
  · refine .inr (.inr (.inr ⟨q, h1, h2, ?_⟩))
    obtain ⟨k, rfl⟩ : ∃ k, q = k + 2 := ⟨q - 2, by omega⟩
    unfold Ob at h ⊢
    rw [hp_lst, hp_dct] at h ⊢
    rcases h with h | ⟨y, h, hy⟩ | h | h
    · exact .inl (lst_grow h)
    · exact .inr (.inl ⟨y, lst_grow h, hy⟩)
    · exact .inr (.inr (.inl (dct_grow h)))
    · exact .inr (.inr (.inr (dct_grow h)))
theorem tx_nl {a c : Nat} (h : Ln y) (hc : c < 1000) : Tx (y.take a ++ ([c] ++ y.drop a)) := by
  refine ⟨?_, fun d hd => ?_⟩
  · have := h.1
    simp
    omega
  · simp only [List.mem_append, List.mem_singleton] at hd
    rcases hd with hd | rfl | hd
    · exact h.tx.2 d (List.mem_of_mem_take hd)
    · exact hc
    · exact h.tx.2 d (List.mem_of_mem_drop hd)
theorem odd_W (hy : Ln y) (k : ∀ v g' T', Gr T T' → Th (hp g' T') v → (∀ q, v = .ref q → T.length + 2 ≤ q) → kv.V v (hp g' T')) : @Res.W AV (fn__law_odd [.ref 1, .str (S y)] (hp g T)) kv := by
  have hl := hy.1
  have hlen : ∀ B, bLen [.str (S y)] B = .ok (.int y.length) B := fun B => len_S (by omega)
  apply run_W
  simp only [sh__law_odd, sh__law_odd_0]
  simp [hlen, g__law_pick, pick_eq]
  refine pick_W (by omega) (by omega) fun d g1 d1 d2 => ?_
  obtain ⟨a, rfl⟩ : ∃ a : Nat, d = (a : Int) := ⟨d.toNat, by omega⟩
  have t1 : ∀ B, opSl (.str (S y)) none (some (a : Int)) B = .ok (.str (S (y.take a))) B := fun B => sl_S_take (by omega)
  have t2 : ∀ B, opSl (.str (S y)) (some (a : Int)) none B = .ok (.str (S (y.drop a))) B := fun B => sl_S_drop (by omega)
  have add : ∀ (l m : List Nat) B, l.length ≤ 1000 → m.length ≤ 1000 → opAdd (.str (S l)) (.str (S m)) B = .ok (.str (S (l ++ m))) B := fun l m B h1 h2 => by rw [add_S, if_pos (by omega)]
  have a1 : ∀ c B, opAdd (.str (S (y.take a))) (.str (S [c])) B = .ok (.str (S (y.take a ++ [c]))) B := fun c B => add _ _ B (by simp; omega) (by simp)
  have a2 : ∀ c B, opAdd (.str (S (y.take a ++ [c]))) (.str (S (y.drop a))) B = .ok (.str (S (y.take a ++ ([c] ++ y.drop a)))) B := fun c B => by rw [add _ _ B (by simp; omega) (by simp; omega), List.append_assoc]
  have a3 : ∀ B, opAdd (.str (S y)) (.str (S [10])) B = .ok (.str (S (y ++ [10]))) B := fun B => add _ _ B (by omega) (by simp)
  have a4 : ∀ B, opAdd (.str (S y)) (.str (S (rep201 113))) B = .ok (.str (S (y ++ rep201 113))) B := fun B => add _ _ B (by omega) (by rw [rep201_len]; omega)
  have m2 : ∀ c B, opMul (.str (S [c])) (.int 201) B = .ok (.str (S (rep201 c))) B := fun c B => opMul_201
  have t3 : ∀ B, opSl (.str (S (y ++ rep201 113))) none (some 201) B = .ok (.str (S ((y ++ rep201 113).take 201))) B := fun B => sl_S_take (k := 201) (by rw [List.length_append, rep201_len]; omega)
  have x1 := tx_nl (a := a) hy (c := 10) (by omega)
  have x2 := tx_nl (a := a) hy (c := 9) (by omega)
  have x3 : Tx (y ++ [10]) := ⟨by simp; omega, fun d hd => by
    rcases List.mem_append.mp hd with h | h
    · exact hy.tx.2 d h
    · rw [List.mem_singleton.mp h]; omega⟩
  have x4 : Tx ((y ++ rep201 113).take 201) := ⟨by rw [List.length_take]; omega, fun d hd => by
    rcases List.mem_append.mp (List.mem_of_mem_take hd) with h | h
    · exact hy.tx.2 d h
    · rw [rep201_mem h]; omega⟩
  have x5 : Tx (rep201 32) := ⟨by rw [rep201_len]; omega, fun d hd => by rw [rep201_mem hd]; omega⟩
  simp only [sh__law_odd_1]
  simp [nl, tb, qq, t1, t2, a1, a2, a3, a4, m2, t3, -List.cons_append, -List.nil_append]
  simp only [sh__law_odd_2]
  simp [sp, m2, g__law_choice, choice_eq, -List.cons_append, -List.nil_append]
  refine choice_W (fun g' => by simp; rfl) (by simp) (by simp) fun v g3 hv => ?_
  simp only [List.mem_cons, List.not_mem_nil, or_false] at hv
  refine k v g3 _ ⟨_, rfl⟩ ?_ ?_
  · rcases hv with rfl | rfl | rfl | rfl | rfl | rfl | rfl | rfl | rfl | rfl | rfl | rfl | rfl
    · exact .inl ⟨_, rfl, x1⟩
    · exact .inl ⟨_, rfl, x2⟩
    · exact .inl ⟨_, rfl, x3⟩
    · exact .inl ⟨_, rfl, x4⟩
    · exact .inl ⟨_, rfl, x5⟩
    · exact .inr (.inl (by simp))
    · exact .inr (.inl (by simp))
    · exact .inr (.inl (by simp))
    · exact .inr (.inl (by simp))
    · exact .inr (.inr (.inr ⟨_, rfl, by omega, .inr (.inl ⟨y, by rw [hp_lst]; simp, hy.tx⟩)⟩))
    · exact .inr (.inr (.inl ⟨y, rfl, hy.tx⟩))
    · refine .inr (.inr (.inr ⟨_, rfl, by omega, .inr (.inr (.inl ?_))⟩))
      rw [hp_dct]
      unfold AH.dct?
      rw [List.getElem?_append_right (by omega)]
      simp
      rfl
    · exact .inr (.inr (.inr ⟨_, rfl, by omega, .inl (by rw [hp_lst]; simp)⟩))
  · rintro q rfl
    simp at hv
    omega
end
end K20

set_option Elab.async false
set_option linter.all false
set_option maxRecDepth 100000
set_option maxHeartbeats 4000000
namespace K20
open PySem L2 PyProof.Rows Sh
/-! ### lists of lines, spoilt -/
structure Lx (A : AH) (t : Nat) (xs : List AV) : Prop where
  l : A.lst? t = some xs
  th : ∀ x ∈ xs, Th A x
  ne : ∀ x ∈ xs, x ≠ .ref t
  t2 : 2 ≤ t
  n : xs.length ≤ 203
def SpO (A : AH) (v : AV) : Prop := Od A v ∨ (∃ xs, v = .tup xs ∧ (∀ x ∈ xs, Th A x) ∧ xs.length ≤ 203) ∨ ∃ t xs, v = .ref t ∧ Lx A t xs
section
variable {A : AH} {v : AV} {g g' : Bag} {T T' : AH} {t : Nat} {xs ys : List AV} {kv : Kr AV}
theorem lst_lt (h : A.lst? t = some xs) : t < A.length := (List.getElem?_eq_some_iff.mp (lst_at h)).1
theorem dct_lt {kvs : List (Key × AV)} (h : A.dct? t = some kvs) : t < A.length := (List.getElem?_eq_some_iff.mp (dct_at h)).1
theorem Ob.lt (h : Ob A t) : t < A.length := by
  rcases h with h | ⟨y, h, _⟩ | h | h
  · exact lst_lt h
  · exact lst_lt h
  · exact dct_lt h
  · exact dct_lt h
theorem Th.lt (h : Th A (.ref t)) : t < A.length := by
  rcases h with ⟨y, h, _⟩ | h | ⟨y, h, _⟩ | ⟨q, h, _, ho⟩
  · cases h
  · simp at h
  · cases h
  · cases h
    exact ho.lt
theorem Th.set {o : AO} (h : Th A v) (hne : v ≠ .ref t) : Th (A.set t o) v := by
  rcases h with h | h | h | ⟨q, rfl, h2, h⟩
  · exact .inl h
  · exact .inr (.inl h)
  · exact .inr (.inr (.inl h))
  · have hq : t ≠ q := fun e => hne (by rw [e])
    refine .inr (.inr (.inr ⟨q, rfl, h2, ?_⟩))
    unfold Ob AH.lst? AH.dct? at h ⊢
    rw [List.getElem?_set_ne hq]
    exact h
theorem Lx.lt (h : Lx A t xs) : t < A.length := lst_lt h.l
theorem Lx.gr (h : Lx (hp g T) t xs) (gr : Gr T T') : Lx (hp g' T') t xs := by
  obtain ⟨k, rfl⟩ : ∃ k, t = k + 2 := ⟨t - 2, by have := h.t2; omega⟩
  obtain ⟨U, rfl⟩ := gr
  exact ⟨by have := h.l; rw [hp_lst] at this ⊢; exact lst_grow this, fun x hx => (h.th x hx).gr ⟨U, rfl⟩, h.ne, h.t2, h.n⟩
theorem Lx.bag (h : Lx (hp g T) t xs) : Lx (hp g' T) t xs := h.gr (Gr.refl _)
theorem Lx.put (h : Lx A t xs) (hy : ∀ y ∈ ys, Th A y ∧ y ≠ .ref t) (hn : ys.length ≤ 203) : Lx (A.set t (.lst ys)) t ys := by
  refine ⟨?_, fun x hx => (hy x hx).1.set (hy x hx).2, fun x hx => (hy x hx).2, h.t2, hn⟩
  unfold AH.lst?
  rw [List.getElem?_set_self h.lt]
theorem Lx.new (hy : ∀ y ∈ ys, Th (hp g T) y) (hn : ys.length ≤ 203) : Lx (hp g' (T ++ [.lst ys])) (T.length + 2) ys := by
  refine ⟨by rw [hp_lst]; simp, fun x hx => (hy x hx).gr ⟨_, rfl⟩, fun x hx e => ?_, by omega, hn⟩
  subst e
  have := (hy _ hx).lt
  rw [hp_len] at this
  omega
theorem Lx.hp_set (h : Lx (hp g T) t xs) {o : AO} : (hp g T).set t o = hp g (T.set (t - 2) o) := by
  obtain ⟨k, rfl⟩ : ∃ k, t = k + 2 := ⟨t - 2, by have := h.t2; omega⟩
  rfl
abbrev Kf (kv : Kr AV) : Ks := ⟨fun _ A => kv.V .non A, kv.V, fun c fs _ A => kv.X c fs A, fun _ _ => False, fun _ _ => False⟩
theorem sp6_W {r kd a b c : Option AV} (h : Lx (hp g T) t xs) (k : ∀ v g', SpO (hp g' T) v → kv.V v (hp g' T)) : @SRes.W (sh__law_spoilt_6 [some (.ref 1), r, kd, some (.ref t), a, b, c] (hp g T)) (Kf kv) := by
  simp only [sh__law_spoilt_6]
  simp [g__law_pick, pick_eq]
  refine pick_W (by omega) (by omega) fun d g1 d1 d2 => ?_
  by_cases c0 : d = 0
  · have := (h.bag (g' := g1)).l
    simp [c0, cEq_i, -cEq_int, this]
    exact k _ g1 (.inr (.inl ⟨xs, rfl, (h.bag (g' := g1)).th, h.n⟩))
  · simp [c0, cEq_i, -cEq_int]
    simp only [sh__law_spoilt_7]
    simp
    exact k _ g1 (.inr (.inr ⟨t, xs, rfl, h.bag⟩))
theorem mInsert_l {n : Nat} {xs : List AV} {i : Int} (h : A.lst? n = some xs) (hl : xs.length < 16777216) (h0 : 0 ≤ i) (h1 : i < 9223372036854775808) : mInsert (.ref n) [.int i, v] A = .ok .non (A.set n (.lst (xs.take i.toNat ++ [v] ++ xs.drop i.toNat))) := by
  show (match A.lst? n with
    | some xs => if xs.length < sizeLine ∧ 0 ≤ i ∧ i < 2 ^ 63 then Res.ok AV.non (A.set n (.lst (xs.take i.toNat ++ [v] ++ xs.drop i.toNat))) else .bad
    | none => .bad) = _
  rw [h]
  simp only
  rw [if_pos ⟨by rw [szL]; exact hl, h0, by omega⟩]
def InvB (r kd : Option AV) (t : Nat) (ℓ : LSt) (A' : AH) : Prop := ∃ g T xs a b c, A' = hp g T ∧ Lx (hp g T) t xs ∧ ℓ = [some (.ref 1), r, kd, some (.ref t), a, b, c]
theorem sp5b_W {r kd a b c : Option AV} {K : Ks} (h : Lx (hp g T) t xs) (k : ∀ ℓ A', InvB r kd t ℓ A' → K.N ℓ A') : @SRes.W (sh__law_spoilt_5b_0 [some (.ref 1), r, kd, some (.ref t), a, b, c] (hp g T)) K := by
  have h203 := h.n
  have hlen : ∀ {g' T'} , Lx (hp g' T') t xs → bLen [.ref t] (hp g' T') = .ok (.int xs.length) (hp g' T') := fun h => by simp [h.l]
  simp only [sh__law_spoilt_5b_0]
  simp [hlen h, g__law_pick, pick_eq, -bLen_ref]
  refine pick_W (by omega) (by omega) fun d g1 d1 d2 => ?_
  simp only [sh__law_spoilt_5b_1]
  simp [g__law_line, g__law_odd]
  refine line_W fun y g2 T2 gr2 hy => ?_
  simp
  refine odd_W hy fun v g3 T3 gr3 hv hq => ?_
  have gr := gr2.trans gr3
  have h3 : Lx (hp g3 T3) t xs := h.gr gr
  have hv' : v ≠ .ref t := fun e => by
    have h1 := hq t e
    have h2 := (h.gr (g' := g) gr2).lt
    rw [hp_len] at h2
    omega
  simp only [sh__law_spoilt_5b_2]
  have ins : ∀ g', @SRes.W ((sIf (tOfE (eOp cLt (eCB bLen (aCons (eVar 3) aNil)) (eC (.int 200))))
  (sExpr (eBM .list mInsert (eVar 3) (aCons (eVar 5) (aCons (eVar 6) aNil))))
  sNext) [some (.ref 1), r, kd, some (.ref t), a, some (.int d), some v] (hp g' T3)) K := fun g' => by
    have h4 : Lx (hp g' T3) t xs := h3.bag
    by_cases c1 : (xs.length : Int) < 200
    · simp [hlen h4, -bLen_ref, c1, h4.l, mInsert_l h4.l (v := v) (i := d) (by omega) (by omega) (by omega)]
      rw [h4.hp_set]
      refine k _ _ ⟨g', _, xs.take d.toNat ++ v :: xs.drop d.toNat, _, _, _, rfl, ?_, rfl⟩
      have := h4.put (ys := xs.take d.toNat ++ v :: xs.drop d.toNat) (fun x hx => by
        rcases List.mem_append.mp hx with hx | hx
        · exact ⟨h4.th x (List.mem_of_mem_take hx), h4.ne x (List.mem_of_mem_take hx)⟩
        · rcases List.mem_cons.mp hx with rfl | hx
          · exact ⟨hv.gr (Gr.refl _), hv'⟩
          · exact ⟨h4.th x (List.mem_of_mem_drop hx), h4.ne x (List.mem_of_mem_drop hx)⟩) (by simp; omega)
      rw [h4.hp_set] at this
      exact this
    · simp [hlen h4, -bLen_ref, c1]
      exact k _ _ ⟨g', T3, xs, _, _, _, rfl, h4, rfl⟩
  have set : ∀ g', d < xs.length → @SRes.W (putS (.ref t) (.int d) v [some (.ref 1), r, kd, some (.ref t), a, some (.int d), some v] (hp g' T3)) K := fun g' hd => by
    have h4 : Lx (hp g' T3) t xs := h3.bag
    rw [put_l h4.l d1 hd, h4.hp_set]
    refine k _ _ ⟨g', _, xs.set d.toNat v, _, _, _, rfl, ?_, rfl⟩
    have := h4.put (ys := xs.set d.toNat v) (fun x hx => by
      rcases List.mem_or_eq_of_mem_set hx with hx | rfl
      · exact ⟨h4.th x hx, h4.ne x hx⟩
      · exact ⟨hv.gr (Gr.refl _), hv'⟩) (by simp; omega)
    rw [h4.hp_set] at this
    exact this
  by_cases c1 : d < xs.length
  · by_cases c2 : 199 < (xs.length : Int)
    · have := set g3 c1
      simpa [hlen h3, -bLen_ref, c1, c2] using this
    · simp [hlen h3, -bLen_ref, c1, c2, pick_eq]
      refine pick_W (by omega) (by omega) fun e g4 e1 e2 => ?_
      by_cases c3 : e = 0
      · have := set g4 c1
        simpa [c3, cEq_i, -cEq_int] using this
      · have := ins g4
        simp [-bLen_ref] at this
        simpa [c3, cEq_i, -cEq_int, -bLen_ref] using this
  · have := ins g3
    simp [-bLen_ref] at this
    simpa [hlen h3, -bLen_ref, c1] using this
end
end K20

set_option Elab.async false
set_option linter.all false
set_option maxRecDepth 100000
set_option maxHeartbeats 4000000
namespace K20
open PySem L2 PyProof.Rows Sh
section
variable {A : AH} {v : AV} {g g' : Bag} {T T' : AH} {t : Nat} {xs ys : List AV} {kv : Kr AV}
theorem sp5_W {r kd a b c : Option AV} (h : Lx (hp g T) t xs) (k : ∀ v g' T', SpO (hp g' T') v → kv.V v (hp g' T')) : @SRes.W (sh__law_spoilt_5 [some (.ref 1), r, kd, some (.ref t), a, b, c] (hp g T)) (Kf kv) := by
  simp only [sh__law_spoilt_5]
  simp [g__law_pick, pick_eq, -rangeAS]
  refine pick_W (by omega) (by omega) fun d g1 d1 d2 => ?_
  have h62 : (-4611686018427387904 : Int) ≤ d ∧ d < 4611686018427387904 := by omega
  simp [h62, -rangeAS]
  refine forR (fun _ ℓ A' => InvB r kd t ℓ A') ⟨g1, T, xs, a, b, c, rfl, h.bag, rfl⟩ ?_ ?_
  · rintro q ℓ A' hq ⟨g2, T2, ys, a2, b2, c2, rfl, h2, rfl⟩
    exact sp5b_W h2 fun ℓ A' h => h
  · rintro ℓ A' ⟨g2, T2, ys, a2, b2, c2, rfl, h2, rfl⟩
    exact sp6_W h2 fun v g' hv => k v g' _ hv
theorem repEx (k : Nat) (q : Int) (hq : q = (k : Int)) (hk : k ≤ 1000) (T : AH) (v : AV) : ∃ R : List AV, R.length = k ∧ (∀ x ∈ R, x = v) ∧ ∀ g', opMul (.ref (T.length + 2)) (.int q) (hp g' (T ++ [.lst [v]])) = .ok (.ref (T.length + 1 + 2)) (hp g' (T ++ [.lst [v], .lst R])) := by
  refine ⟨repV [v] q.toNat, ?_, ?_, fun g' => ?_⟩
  · unfold repV
    rw [List.length_flatten, List.map_replicate, List.sum_replicate_nat]
    simp
    omega
  · intro x hx
    unfold repV at hx
    simpa using rep_mem hx
  · have hl : AH.lst? (hp g' (T ++ [.lst [v]])) (T.length + 2) = some [v] := by rw [hp_lst]; simp
    have hm : [v].length * q.toNat ≤ sizeLine := by
      rw [szL]
      simp
      omega
    unfold opMul
    simp only [hl, hm, and_true]
    rw [if_pos (by omega)]
    simp
theorem addEx (k : Nat) (q : Int) (hq : q = (k : Int)) (hk : k ≤ 1000) (h : Lx (hp g T) t xs) (v : AV) : ∃ R : List AV, R.length = k ∧ (∀ x ∈ R, x = v) ∧ (∀ g', opMul (.ref (T.length + 2)) (.int q) (hp g' (T ++ [.lst [v]])) = .ok (.ref (T.length + 1 + 2)) (hp g' (T ++ [.lst [v], .lst R]))) ∧ ∀ g', opAdd (.ref t) (.ref (T.length + 1 + 2)) (hp g' (T ++ [.lst [v], .lst R])) = .ok (.ref (T.length + 2 + 2)) (hp g' (T ++ [.lst [v], .lst R, .lst (xs ++ R)])) := by
  obtain ⟨R, r1, r2, r3⟩ := repEx k q hq hk T v
  refine ⟨R, r1, r2, r3, fun g' => ?_⟩
  have h1 : AH.lst? (hp g' (T ++ [.lst [v], .lst R])) t = some xs := (h.gr (g' := g') ⟨_, rfl⟩).l
  have h2 : AH.lst? (hp g' (T ++ [.lst [v], .lst R])) (T.length + 1 + 2) = some R := by rw [hp_lst]; simp
  have := h.n
  rw [opAdd_ref, h1, h2]
  simp only
  rw [if_pos (by rw [szL]; omega)]
  simp
theorem fill_ok {R : List AV} {m : Nat} {y : List Nat} (h : Lx (hp g T) t xs) (hy : Ln y) (hR : ∀ x ∈ R, x = .str (S y)) (hm : m ≤ 203) : Lx (hp g' (T ++ [.lst [.str (S y)], .lst R, .lst (xs ++ R), .lst ((xs ++ R).take m)])) (T.length + 3 + 2) ((xs ++ R).take m) := by
  have := Lx.new (g := g) (g' := g') (T := T ++ [.lst [.str (S y)], .lst R, .lst (xs ++ R)]) (ys := (xs ++ R).take m) (fun x hx => ?_) (by rw [List.length_take]; omega)
  · simpa using this
  · rcases List.mem_append.mp (List.mem_of_mem_take hx) with hx | hx
    · exact (h.th x hx).gr ⟨_, rfl⟩
    · rw [hR x hx]
      exact .inl ⟨y, rfl, hy.tx⟩
theorem sp4_W {r a b c : Option AV} {kd : Int} (h : Lx (hp g T) t xs) (k : ∀ v g' T', SpO (hp g' T') v → kv.V v (hp g' T')) : @SRes.W (sh__law_spoilt_4 [some (.ref 1), r, some (.int kd), some (.ref t), a, b, c] (hp g T)) (Kf kv) := by
  simp only [sh__law_spoilt_4]
  by_cases c0 : kd = 2
  · subst c0
    simp [cEq_i, -cEq_int, g__law_line]
    refine line_W fun y g2 T2 gr2 hy => ?_
    have h2 := h.gr (g' := g2) gr2
    obtain ⟨R, r1, r2, r3, r4⟩ := addEx 200 200 rfl (by omega) h2 (.str (S y))
    have hb : ∀ xs : List AV, cutA xs none (some 200) = xs.take 200 := fun xs => cut_take (by omega)
    simp [r3, r4, -opAdd_ref, hb]
    exact sp5_W (fill_ok h2 hy r2 (by omega)) k
  · simp [c0, cEq_i, -cEq_int]
    exact sp5_W h k
theorem sp3_W {r a b c : Option AV} {kd : Int} (h : Lx (hp g T) t xs) (k : ∀ v g' T', SpO (hp g' T') v → kv.V v (hp g' T')) : @SRes.W (sh__law_spoilt_3 [some (.ref 1), r, some (.int kd), some (.ref t), a, b, c] (hp g T)) (Kf kv) := by
  simp only [sh__law_spoilt_3]
  by_cases c0 : kd = 1
  · subst c0
    simp [cEq_i, -cEq_int, g__law_line]
    refine line_W fun y g2 T2 gr2 hy => ?_
    have h2 := h.gr (g' := g2) gr2
    obtain ⟨R, r1, r2, r3, r4⟩ := addEx 203 203 rfl (by omega) h2 (.str (S y))
    simp [r3, r4, -opAdd_ref, g__law_pick, pick_eq]
    refine pick_W (by omega) (by omega) fun d g3 d1 d2 => ?_
    have hb : ∀ xs : List AV, cutA xs none (some (201 + d)) = xs.take (201 + d).toNat := fun xs => cut_take (by omega)
    simp [hb]
    exact sp4_W (fill_ok h2 hy r2 (by omega)) k
  · simp [c0, cEq_i, -cEq_int]
    exact sp4_W h k
theorem spoilt_W {rows : List (List Nat)} (hl : (hp g T).lst? t = some (rowsA rows)) (h2 : 2 ≤ t) (hg : Gd rows) (k : ∀ v g' T', SpO (hp g' T') v → kv.V v (hp g' T')) : @Res.W AV (fn__law_spoilt [.ref 1, .ref t] (hp g T)) kv := by
  obtain ⟨t, rfl⟩ : ∃ q, t = q + 2 := ⟨t - 2, by omega⟩
  rw [hp_lst] at hl
  apply run_W
  simp only [sh__law_spoilt, sh__law_spoilt_0]
  simp [g__law_pick, pick_eq]
  refine pick_W (by omega) (by omega) fun d g1 d1 d2 => ?_
  simp only [sh__law_spoilt_1]
  by_cases c0 : d = 0
  · subst c0
    simp [cEq_i, -cEq_int, g__law_choice, choice_eq]
    refine choice_W (fun g' => by simp; rfl) (by simp) (by simp) fun v g3 hv => ?_
    refine k v g3 _ (.inl ?_)
    simp only [List.mem_cons, List.not_mem_nil, or_false] at hv
    rcases hv with rfl | rfl | rfl | rfl | rfl | rfl | rfl | rfl | rfl
    · exact .inr (.inl (by simp))
    · exact .inr (.inl (by simp))
    · exact .inr (.inl (by simp))
    · exact .inr (.inl (by simp))
    · exact .inl ⟨[], rfl, by simp [Tx]⟩
    · exact .inl ⟨[97, 98], rfl, by simp [Tx]⟩
    · refine .inr (.inr ⟨_, rfl, by omega, .inl ?_⟩)
      rw [hp_dct]
      unfold AH.dct?
      rw [List.getElem?_append_right (by omega)]
      simp
      rfl
    · refine .inr (.inr ⟨_, rfl, by omega, .inr ?_⟩)
      rw [hp_dct]
      unfold AH.dct?
      rw [List.getElem?_append_right (by omega)]
      simp
      rfl
    · exact .inl ⟨[97, 32, 108, 105, 110, 101], rfl, by simp [Tx]⟩
  · simp [c0, cEq_i, -cEq_int]
    simp only [sh__law_spoilt_2]
    simp [hl]
    have := Lx.new (g := g1) (g' := g1) (T := T) (ys := rowsA rows) (fun x hx => by
      obtain ⟨y, hy, rfl⟩ := List.mem_map.mp hx
      exact .inl ⟨y, rfl, (hg.2 y hy).tx⟩) (by rw [rows_len]; have := hg.1; omega)
    exact sp3_W this k
end
end K20

set_option Elab.async false
set_option linter.all false
set_option maxRecDepth 100000
set_option maxHeartbeats 4000000
namespace K20
open PySem L2 PyProof.Rows Sh
section
variable {A B : AH} {v : AV} {g g' : Bag} {T T' : AH} {t : Nat} {xs ys : List AV} {o : Option (List AV)} {K : Ks}
theorem Lx.lv (h : Lx A t xs) : LV A (.ref t) (some xs) := ⟨.inr ⟨t, rfl, h.l⟩, h.th, by have := h.n; omega⟩
theorem SpO.lv (h : SpO A v) : ∃ o, LV A v o := by
  rcases h with h | ⟨xs, rfl, ht, hn⟩ | ⟨t, xs, rfl, h⟩
  · exact ⟨none, h⟩
  · exact ⟨some xs, .inl rfl, ht, by omega⟩
  · exact ⟨some xs, h.lv⟩
theorem Od.gr (h : Od (hp g T) v) (gr : Gr T T') : Od (hp g' T') v := by
  obtain ⟨U, rfl⟩ := gr
  rcases h with h | h | ⟨q, h1, h2, h⟩
  · exact .inl h
  · exact .inr (.inl h)
  · refine .inr (.inr ⟨q, h1, h2, ?_⟩)
    obtain ⟨k, rfl⟩ : ∃ k, q = k + 2 := ⟨q - 2, by omega⟩
    rw [hp_dct] at h ⊢
    exact h.imp dct_grow dct_grow
theorem SpO.gr (h : SpO (hp g T) v) (gr : Gr T T') : SpO (hp g' T') v := by
  rcases h with h | ⟨xs, rfl, ht, hn⟩ | ⟨t, xs, rfl, h⟩
  · exact .inl (h.gr gr)
  · exact .inr (.inl ⟨xs, rfl, fun x hx => (ht x hx).gr gr, hn⟩)
  · exact .inr (.inr ⟨t, xs, rfl, h.gr gr⟩)
theorem Od.isl (h : Od A v) : bIsi [v, .ty "list"] A = .ok (.bl false) A := by
  rcases h with ⟨y, rfl, _⟩ | h | ⟨q, rfl, _, h | h⟩
  · rfl
  · simp only [List.mem_cons, List.not_mem_nil, or_false] at h
    rcases h with h | h | h | h | h | h <;> subst h <;> rfl
  · simp [bt_dct h]; rfl
  · simp [bt_dct h]; rfl
theorem cEq_of {a b : AV} {d e : PyData} (ha : dat A 12 a = some d) (hb : dat A 12 b = some e) : cEq a b A = .ok (.bl (PyData.eqv d e)) A := by
  show (match dat A 12 a, dat A 12 b with | some d, some e => Res.ok (AV.bl (PyData.eqv d e)) A | _, _ => .bad) = _
  rw [ha, hb]
theorem eqv_two {a b c d : PyData} : PyData.eqv (.tuple [a, b]) (.tuple [c, d]) = (PyData.eqv a c && (PyData.eqv b d && true)) := by
  conv => lhs; unfold PyData.eqv
  rfl
theorem due_eq (h : LV A v o) : cEq (dueV o) (.tup [.str "BadText", .int (-1)]) B = .ok (.bl (decide (ct o = some (-1)))) B := by
  have e2 : dat B 12 (.tup [.str "BadText", .int (-1)]) = some (.tuple [.str "BadText", .int (-1)]) := dat_tup (datsBy_cons dat_str (datsBy_cons dat_int rfl))
  cases hc : ct o with
  | some i =>
    have e1 : dat B 12 (.tup [.str "BadText", .int i]) = some (.tuple [.str "BadText", .int i]) := dat_tup (datsBy_cons dat_str (datsBy_cons dat_int rfl))
    have e3 : dueV o = .tup [.str "BadText", .int i] := by simp [dueV, hc]
    rw [e3, cEq_of e1 e2, eqv_two, eqv_int]
    have e4 : PyData.eqv (.str "BadText") (.str "BadText") = true := PySem.SeqAt.eqv_refl_plain (.str "BadText") rfl
    rw [e4, Bool.true_and, Bool.and_true]
    by_cases e : i = -1 <;> simp [e]
  | none =>
    obtain ⟨rows, rfl, hg⟩ := ct_none h hc
    have e0 : dat B 11 (.tup (rowsA rows)) = some (.tuple ((rows.map S).map .str)) := by
      have e : rowsA rows = (rows.map S).map .str := by simp [rowsA]
      rw [e]
      exact dat_tup (dats_strs _)
    have e1 : dat B 12 (.tup [.str "told", .tup (rowsA rows)]) = some (.tuple [.str "told", .tuple ((rows.map S).map .str)]) := dat_tup (datsBy_cons dat_str (datsBy_cons e0 rfl))
    have e3 : dueV (some (rowsA rows)) = .tup [.str "told", .tup (rowsA rows)] := by simp [dueV, hc]
    have e4 : PyData.eqv (.str "told") (.str "BadText") = false := by unfold PyData.eqv; decide
    rw [e3, cEq_of e1 e2, eqv_two, e4, Bool.false_and]
    simp
abbrev agS : SF := sIf (tOrF (tNotF (tTruF (eCall g__law_asked (aCons (eVar 3) aNil)))) (tNotF (tTruF (eCall g__law_each (aCons (eVar 3) aNil)))))
  (sRet (eC (.bl false)))
  sNext
theorem rest_W {sc tn d n : Option AV} (hv : SpO (hp g T) v) (k : ∀ g' T' l d n, K.N [sc, some (.ref 1), tn, l, d, n] (hp g' T')) : @SRes.W (sh_law_2b_2 [sc, some (.ref 1), tn, some v, d, n] (hp g T)) K := by
  simp only [sh_law_2b_2]
  rcases hv with h | ⟨xs, rfl, ht, hn⟩ | ⟨t, xs, rfl, h⟩
  · simp [h.isl, -isi1]
    exact k _ _ _ _ _
  · simp [show BT.tup.sub BT.lst = false from rfl]
    exact k _ _ _ _ _
  · have again : ∀ {g' : Bag} {T' : AH} {t : Nat} {xs : List AV} {d n : Option AV}, Lx (hp g' T') t xs → @SRes.W (agS [sc, some (.ref 1), tn, some (.ref t), d, n] (hp g' T')) K := fun {g' T' t xs d n} h => by
      simp [agS, g__law_asked]
      refine asked_W h.lv fun U => ?_
      have h2 : Lx (hp g' (T' ++ U)) t xs := h.gr ⟨U, rfl⟩
      simp [g__law_each, each_ok (v := .ref t) (.inr ⟨t, rfl, h2.l⟩) h2.th]
      exact k _ _ _ _ _
    have hn := h.n
    have isl : bIsi [.ref t, .ty "list"] (hp g T) = .ok (.bl true) (hp g T) := by simp [bt_lst h.l]; rfl
    have hlen : bLen [.ref t] (hp g T) = .ok (.int xs.length) (hp g T) := by simp [h.l]
    simp [isl, -isi1, -bLen_ref, g__law_each, each_ok (v := .ref t) (.inr ⟨t, rfl, h.l⟩) h.th, g__law_due, due_ok h.lv, due_eq h.lv]
    cases hc : ct (some xs) with
    | some i =>
      by_cases ci : i = -1
      · have hb : ∀ xs : List AV, cutA xs none (some 200) = xs.take 200 := fun xs => cut_take (by omega)
        subst ci
        simp [h.l, hb]
        have := Lx.new (g := g) (g' := g) (T := T) (ys := xs.take 200) (fun x hx => h.th x (List.mem_of_mem_take hx)) (by rw [List.length_take]; omega)
        refine asked_W this.lv fun U => ?_
        have h2 : Lx (hp g (T ++ .lst (xs.take 200) :: U)) (T.length + 2) (xs.take 200) := this.gr ⟨U, by simp⟩
        simp [g__law_each, each_ok (v := .ref (T.length + 2)) (.inr ⟨_, rfl, h2.l⟩) h2.th]
        exact k _ _ _ _ _
      · have e3 : dueV (some xs) = .tup [.str "BadText", .int i] := by simp [dueV, hc]
        have hi : 0 ≤ i ∧ i < xs.length := by
          rcases ct_some hc with ⟨h1, _⟩ | ⟨h1, h2, _⟩
          · exact absurd h1 ci
          · exact ⟨h1, h2⟩
        simp [ci, e3, cEq_str, g__law_line]
        refine line_W fun y g2 T2 gr2 hy => ?_
        have h2 := h.gr (g' := g2) gr2
        simp
        rw [put_l h2.l hi.1 hi.2]
        have := h2.put (ys := xs.set i.toNat (.str (S y))) (fun x hx => by
          rcases List.mem_or_eq_of_mem_set hx with hx | rfl
          · exact ⟨h2.th x hx, h2.ne x hx⟩
          · exact ⟨.inl ⟨y, rfl, hy.tx⟩, fun e => by cases e⟩) (by simp; omega)
        rw [h2.hp_set] at this ⊢
        exact again this
    | none =>
      obtain ⟨rows, e0, hg⟩ := ct_none h.lv hc
      have e3 : dueV (some xs) = .tup [.str "told", .tup xs] := by simp [dueV, hc]
      have s4 : ∀ B, cEq (.str "told") (.str "BadText") B = .ok (.bl false) B := fun B => rfl
      by_cases c : 0 < xs.length
      · simp [e3, s4, hlen, -bLen_ref, c, g__law_pick, pick_eq]
        refine pick_W (by omega) (by omega) fun d g1 d1 d2 => ?_
        simp [g__law_line, g__law_odd]
        refine line_W fun y g2 T2 gr2 hy => ?_
        simp
        refine odd_W hy fun v g3 T3 gr3 hv hq => ?_
        have h3 : Lx (hp g3 T3) t xs := h.gr (gr2.trans gr3)
        have hv' : v ≠ .ref t := fun e => by
          have h1 := hq t e
          have h2 := (h.gr (g' := g) gr2).lt
          rw [hp_len] at h2
          omega
        simp
        rw [put_l h3.l d1 d2]
        have := h3.put (ys := xs.set d.toNat v) (fun x hx => by
          rcases List.mem_or_eq_of_mem_set hx with hx | rfl
          · exact ⟨h3.th x hx, h3.ne x hx⟩
          · exact ⟨hv, hv'⟩) (by simp; omega)
        rw [h3.hp_set] at this ⊢
        exact again this
      · simp [e3, s4, hlen, -bLen_ref, c]
        refine asked_W h.lv fun U => ?_
        have h2 : Lx (hp g (T ++ U)) t xs := h.gr ⟨U, rfl⟩
        simp [g__law_each, each_ok (v := .ref t) (.inr ⟨_, rfl, h2.l⟩) h2.th]
        exact k _ _ _ _ _
theorem turn_W {sc tn l d n : Option AV} (k : ∀ g' T' l d n, K.N [sc, some (.ref 1), tn, l, d, n] (hp g' T')) : @SRes.W (sh_law_2b_0 [sc, some (.ref 1), tn, l, d, n] (hp g T)) K := by
  simp only [sh_law_2b_0]
  simp [g__law_text, g__law_spoilt]
  refine text_W fun rows t g1 T1 gr1 hg hl => ?_
  simp
  refine spoilt_W (by rw [hp_lst]; exact hl) (by omega) hg fun v g2 T2 hv => ?_
  simp only [sh_law_2b_1]
  obtain ⟨o, ho⟩ := hv.lv
  simp [g__law_asked]
  refine asked_W ho fun U => ?_
  simp
  exact rest_W (hv.gr ⟨U, rfl⟩) k
theorem law_W {ns : List Int} (hn : ns.length ≤ 63) : @Res.W AV (fn_law [.fl (ns.map .int)] []) ⟨fun v _ => v = .bl true, fun _ _ _ => False⟩ := by
  apply run_W
  simp [sh_law, sh_law_0, show fn__law_bag = fnBag 20011 from g__law_bag_fn]
  refine bag_W (ns := ns) (by omega) fun g => ?_
  have s1 : ∀ (x : Str) B, cNe (.str x) (.str x) B = .ok (.bl false) B := fun x B => cNe_self dat_str
  simp only [sh_law_1]
  simp [sg_eq, g__law_signs, signs_eq, s1, show BT.str.sub BT.str = true from rfl]
  simp only [sh_law_2]
  simp [-rangeAS]
  refine forR (n := 3) (fun _ ℓ A' => ∃ sc tn l d n g T, A' = hp g T ∧ ℓ = [sc, some (.ref 1), tn, l, d, n]) ⟨_, _, _, _, _, g, _, rfl, rfl⟩ ?_ ?_
  · rintro q ℓ A' hq ⟨sc, tn, l, d, n, g, T, rfl, rfl⟩
    exact turn_W fun g' T' l d n => ⟨_, _, _, _, _, g', T', rfl, rfl⟩
  · rintro ℓ A' ⟨sc, tn, l, d, n, g, T, rfl, rfl⟩
    simp only [sh_law_3]
    simp
theorem law_true : ∀ ns : List Int, ns.length ≤ 63 → ∃ A', fn_law [.fl (ns.map .int)] [] = .ok (.bl true) A' := fun ns hn => by
  obtain ⟨a, A', e, rfl⟩ := ex_W (law_W hn)
  exact ⟨A', e⟩
end
end K20

set_option Elab.async false
set_option linter.all false
set_option maxRecDepth 100000
set_option maxHeartbeats 4000000
theorem K20.fp : Sh.FP PySem.Challenge.rw_wordmint_k20_text_refusals 63 30 K20.hk.says "law" "_law_script" := by
  intro w mg fa h Y G hmg
  obtain ⟨K, KX, c⟩ := Y
  obtain ⟨fd, hb, hF⟩ := K20.facts (w := w) KX G hmg c
  exact ⟨K, fd, _, KX, hb, fun H a ns hl hO hS => by
    obtain ⟨A', e⟩ := K20.law_true ns hl
    exact Sh.law_sp trivial hO hS e, hF⟩
open PySem PySem.W PySem.Calls PyProof.Rows
set_option maxHeartbeats 40000000
theorem PySem.Challenge.cw_wordmint_k20_text_refusals_holds : PySem.Challenge.rw_wordmint_k20_text_refusals.Holds := by
  w_on; o_law
  o_head K20.hk
  case hw => w_witness2
  case hc => exact Sh.walkH rfl (by decide) rfl ⟨rfl, by decide, by decide⟩ rfl K20.fp

