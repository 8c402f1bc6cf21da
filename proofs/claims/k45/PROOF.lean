import PyProof.Rows.All
import Wide.All
import OpenK.AllK
import Wide.FinOn
import HandS.ForMost
import HandS.ForExc
import HandS.CallSlots
import HandS.TupAny
import HandS.IsInst
import KE.DataEq
import HandS.More
import HandS.Text
import HandS.Codes
import HandS.Defaults
import HandS.Head0
import HandS.Head1
import HandS.Head2
import HandS.HeadEnd
import HandS.HeadHook1
import HandS.HeadHook2
import HandS.HeadHook3
import PySem.Challenge.RW_wordmint_k45_layout_steps
set_option Elab.async false
set_option linter.all false
set_option maxRecDepth 100000
set_option maxHeartbeats 2000000
namespace Sh
open PySem L2

/-! ### values, objects, results -/
inductive AV where
  | non | bl (b : Bool) | int (i : Int) | str (x : Str) | ty (n : String) | cls (c : Str) | ref (n : Nat) | fl (xs : List AV) | tup (xs : List AV) | gd (n : Str) (kvs : List (Key × AV))
inductive AO where
  | lst (xs : List AV)
  | dct (kvs : List (Key × AV))
  | ins (c : Str) (fs : List (Str × AV))
abbrev AH := List AO
abbrev LSt := List (Option AV)
inductive Res (α : Type) where
  | ok (a : α) (A : AH)
  | exc (c : Str) (fs : List (Str × AV)) (A : AH)
  | bad
def Res.bind {α β : Type} (r : Res α) (k : α → AH → Res β) : Res β :=
  match r with
  | .ok a A => k a A
  | .exc c fs A => .exc c fs A
  | .bad => .bad
inductive SRes where
  | nx (ℓ : LSt) (A : AH) | rt (v : AV) (A : AH) | bk (ℓ : LSt) (A : AH) | ct (ℓ : LSt) (A : AH)
  | exc (c : Str) (fs : List (Str × AV)) (ℓ : LSt) (A : AH)
  | bad
abbrev EF := LSt → AH → Res AV
abbrev TF := LSt → AH → Res Bool
abbrev AF := LSt → AH → Res (List AV)
abbrev SF := LSt → AH → SRes
abbrev Fn := List AV → AH → Res AV
def Res.toS {α : Type} (r : Res α) (ℓ : LSt) (k : α → AH → SRes) : SRes :=
  match r with
  | .ok a A => k a A
  | .exc c fs A => .exc c fs ℓ A
  | .bad => .bad

/-! ### relations -/
structure Rc where
  K : PySem.W.Frag
  w : World
  cl : Str → Option Addr
  gdA : Str → Option Addr
  gdT : Str → Option (List (Key × AV))
/-- a list of the written part -/
def KLst (K : PySem.W.Frag) (a : Addr) (xs : List V) : Prop := ∃ (o : Obj) (its : Array Value) (n : Nat), K.lookup a = some o ∧ o.cls = .type "list" ∧ o.dict = none ∧ o.data = .seq its n ∧ its.size ≤ sizeLine ∧ Vals xs its.toList
/-- a list that is only read -/
def FzL (K : PySem.W.Frag) (H : Hp) (a : Addr) (xs : List V) : Prop := (∃ ob, H a = some (.frz ob (.lst xs))) ∨ KLst K a xs
mutual
def VR (R : Rc) (ι : List Addr) (H : Hp) : AV → V → Prop
  | .non, x => x = .non
  | .bl b, x => x = .bl b
  | .int i, x => x = .int i
  | .str s, x => x = .str s
  | .ty n, x => x = .ty n
  | .cls c, x => ∃ a, R.cl c = some a ∧ x = .ref a
  | .ref n, x => ∃ a, ι[n]? = some a ∧ x = .ref a
  | .fl xs, x => ∃ p vs, x = .ref p ∧ FzL R.K H p vs ∧ VRs R ι H xs vs
  | .tup xs, x => ∃ p vs, x = .ref p ∧ SqT R.K H p vs ∧ VRs R ι H xs vs
  | .gd n kvs, x => ∃ a, R.gdA n = some a ∧ R.gdT n = some kvs ∧ x = .ref a
def VRs (R : Rc) (ι : List Addr) (H : Hp) : List AV → List V → Prop
  | [], vs => vs = []
  | a :: as, vs => ∃ v r, vs = v :: r ∧ VR R ι H a v ∧ VRs R ι H as r
end
/-- fields: the same names, related values -/
def FR (R : Rc) (ι : List Addr) (H : Hp) : List (Str × AV) → List (Str × V) → Prop
  | [], gs => gs = []
  | (f, a) :: fs, gs => ∃ v r, gs = (f, v) :: r ∧ VR R ι H a v ∧ FR R ι H fs r
def KR (R : Rc) (ι : List Addr) (H : Hp) : List (Key × AV) → List (Key × V) → Prop
  | [], gs => gs = []
  | (f, a) :: fs, gs => ∃ v r, gs = (f, v) :: r ∧ VR R ι H a v ∧ KR R ι H fs r
def OR (R : Rc) (ι : List Addr) (H : Hp) (a : Addr) : AO → Prop
  | .lst xs => ∃ vs, H a = some (.lst vs) ∧ VRs R ι H xs vs
  | .dct kvs => ∃ kvs', H a = some (.dK kvs') ∧ KR R ι H kvs kvs'
  | .ins c fs => ∃ C dx fs', R.cl c = some C ∧ H a = some (.ins C dx fs') ∧ FR R ι H fs fs'
structure Emb (R : Rc) (ι : List Addr) (A : AH) (H : Hp) : Prop where
  len : ι.length = A.length
  nd : ι.Nodup
  obj : ∀ (n : Nat) (o : AO) (a : Addr), A[n]? = some o → ι[n]? = some a → OR R ι H a o
structure Up (R : Rc) (ι ι' : List Addr) (H H' : Hp) : Prop where
  pre : ∃ τ, ι' = ι ++ τ ∧ ∀ b ∈ τ, H b = none
  tup : ∀ p xs, SqT R.K H p xs → SqT R.K H' p xs
  frz : ∀ p ob u, H p = some (.frz ob u) → H' p = some (.frz ob u)
  xd : ∀ p fs, H p = some (.xd fs) → H' p = some (.xd fs)
  oth : ∀ p o, H p = some o → p ∉ ι → H' p = some o
  there : ∀ p, H' p = none → H p = none
def LR (R : Rc) (ι : List Addr) (H : Hp) (ℓ : LSt) (σ : St) : Prop :=
  ℓ.length = σ.length ∧ ∀ (i : Nat) (v : AV), ℓ[i]? = some (some v) → ∃ x, σ[i]? = some (some x) ∧ VR R ι H v x

section
variable {R : Rc} {ι ι' ι2 : List Addr} {H H' H2 : Hp}
theorem Up.refl (R : Rc) (ι : List Addr) (H : Hp) : Up R ι ι H H := ⟨⟨[], by simp⟩, fun _ _ h => h, fun _ _ _ h => h, fun _ _ h => h, fun _ _ h _ => h, fun _ h => h⟩
theorem Up.trans (a : Up R ι ι' H H') (b : Up R ι' ι2 H' H2) : Up R ι ι2 H H2 := by
  obtain ⟨τ, e, f⟩ := a.pre
  obtain ⟨τ', e', f'⟩ := b.pre
  refine ⟨⟨τ ++ τ', by rw [e', e, List.append_assoc], fun b hb => ?_⟩, fun p xs h => b.tup p xs (a.tup p xs h), fun p ob u h => b.frz p ob u (a.frz p ob u h), fun p fs h => b.xd p fs (a.xd p fs h), fun p o h n => b.oth p o (a.oth p o h n) fun hm => ?_, fun p h => a.there p (b.there p h)⟩
  · rcases List.mem_append.mp hb with z | z
    · exact f b z
    · exact a.there b (f' b z)
  · rw [e] at hm
    rcases List.mem_append.mp hm with z | z
    · exact n z
    · rw [f p z] at h
      cases h
theorem Up.at (u : Up R ι ι' H H') {n : Nat} {a : Addr} (h : ι[n]? = some a) : ι'[n]? = some a := by
  obtain ⟨τ, e, _⟩ := u.pre
  rw [e, List.getElem?_append_left (List.getElem?_eq_some_iff.mp h).1]
  exact h
theorem FzL.up {a : Addr} {xs : List V} (u : Up R ι ι' H H') (h : FzL R.K H a xs) : FzL R.K H' a xs := by
  rcases h with ⟨ob, h⟩ | h
  · exact .inl ⟨ob, u.frz _ _ _ h⟩
  · exact .inr h
theorem FzL.sq {K : PySem.W.Frag} {a : Addr} {xs : List V} (h : FzL K H a xs) : SqL K H a xs := by
  rcases h with ⟨ob, h⟩ | h
  · exact .inl (.inr ⟨ob, h⟩)
  · exact .inr h
mutual
theorem VR.up (u : Up R ι ι' H H') : ∀ {a : AV} {x : V}, VR R ι H a x → VR R ι' H' a x
  | .non, _, h => by unfold VR at h ⊢; exact h
  | .bl _, _, h => by unfold VR at h ⊢; exact h
  | .int _, _, h => by unfold VR at h ⊢; exact h
  | .str _, _, h => by unfold VR at h ⊢; exact h
  | .ty _, _, h => by unfold VR at h ⊢; exact h
  | .cls _, _, h => by unfold VR at h ⊢; exact h
  | .ref n, _, h => by
    unfold VR at h ⊢
    obtain ⟨a, e, q⟩ := h
    exact ⟨a, u.at e, q⟩
  | .tup xs, _, h => by
    unfold VR at h ⊢
    obtain ⟨p, vs, e, q, r⟩ := h
    exact ⟨p, vs, e, u.tup _ _ q, VRs.up u r⟩
  | .fl xs, _, h => by
    unfold VR at h ⊢
    obtain ⟨p, vs, e, q, r⟩ := h
    exact ⟨p, vs, e, q.up u, VRs.up u r⟩
  | .gd _ _, _, h => by unfold VR at h ⊢; exact h
theorem VRs.up (u : Up R ι ι' H H') : ∀ {as : List AV} {xs : List V}, VRs R ι H as xs → VRs R ι' H' as xs
  | [], _, h => by unfold VRs at h ⊢; exact h
  | a :: as, _, h => by
    unfold VRs at h ⊢
    obtain ⟨v, r, e, q, t⟩ := h
    exact ⟨v, r, e, VR.up u q, VRs.up u t⟩
end
theorem FR.up (u : Up R ι ι' H H') : ∀ {as : List (Str × AV)} {xs : List (Str × V)}, FR R ι H as xs → FR R ι' H' as xs
  | [], _, h => by unfold FR at h ⊢; exact h
  | (f, a) :: as, _, h => by
    unfold FR at h ⊢
    obtain ⟨v, r, e, q, t⟩ := h
    exact ⟨v, r, e, VR.up u q, FR.up u t⟩
theorem KR.up (u : Up R ι ι' H H') : ∀ {as : List (Key × AV)} {xs : List (Key × V)}, KR R ι H as xs → KR R ι' H' as xs
  | [], _, h => by unfold KR at h ⊢; exact h
  | (f, a) :: as, _, h => by
    unfold KR at h ⊢
    obtain ⟨v, r, e, q, t⟩ := h
    exact ⟨v, r, e, VR.up u q, KR.up u t⟩
theorem LR.up {ℓ : LSt} {σ : St} (u : Up R ι ι' H H') (h : LR R ι H ℓ σ) : LR R ι' H' ℓ σ :=
  ⟨h.1, fun i v e => let ⟨x, q, r⟩ := h.2 i v e; ⟨x, q, r.up u⟩⟩
theorem LR.set {ℓ : LSt} {σ : St} {i : Nat} {v : AV} {x : V} (h : LR R ι H ℓ σ) (r : VR R ι H v x) : LR R ι H (ℓ.set i (some v)) (σ.set i (some x)) := by
  refine ⟨by rw [List.length_set, List.length_set]; exact h.1, fun j w e => ?_⟩
  by_cases hj : i = j
  · subst hj
    by_cases hl : i < ℓ.length
    · rw [List.getElem?_set_self hl] at e
      cases e
      exact ⟨x, by rw [List.getElem?_set_self (by rw [← h.1]; exact hl)], r⟩
    · rw [List.getElem?_eq_none (by rw [List.length_set]; omega)] at e
      cases e
  · rw [List.getElem?_set_ne hj] at e
    rw [List.getElem?_set_ne hj]
    exact h.2 j w e
theorem VRs.length : ∀ {as : List AV} {xs : List V}, VRs R ι H as xs → as.length = xs.length
  | [], _, h => by unfold VRs at h; subst h; rfl
  | a :: as, _, h => by
    unfold VRs at h
    obtain ⟨v, r, e, q, t⟩ := h
    subst e
    rw [List.length_cons, List.length_cons, VRs.length t]
theorem VRs.append : ∀ {as bs : List AV} {xs ys : List V}, VRs R ι H as xs → VRs R ι H bs ys → VRs R ι H (as ++ bs) (xs ++ ys)
  | [], _, _, _, h, k => by unfold VRs at h; subst h; exact k
  | a :: as, _, _, _, h, k => by
    unfold VRs at h
    obtain ⟨v, r, e, q, t⟩ := h
    subst e
    show VRs R ι H (a :: (as ++ _)) (v :: (r ++ _))
    unfold VRs
    exact ⟨v, _, rfl, q, VRs.append t k⟩
theorem VRs.get : ∀ {as : List AV} {xs : List V} {n : Nat} {a : AV}, VRs R ι H as xs → as[n]? = some a → ∃ x, xs[n]? = some x ∧ VR R ι H a x
  | [], _, _, _, _, e => by simp at e
  | b :: as, _, 0, a, h, e => by
    unfold VRs at h
    obtain ⟨v, r, e', q, t⟩ := h
    subst e'
    simp at e
    subst e
    exact ⟨v, rfl, q⟩
  | b :: as, _, n + 1, a, h, e => by
    unfold VRs at h
    obtain ⟨v, r, e', q, t⟩ := h
    subst e'
    obtain ⟨x, e2, q2⟩ := VRs.get (n := n) t (by simpa using e)
    exact ⟨x, by simpa using e2, q2⟩
theorem VRs.take : ∀ {as : List AV} {xs : List V} (n : Nat), VRs R ι H as xs → VRs R ι H (as.take n) (xs.take n)
  | [], _, _, h => by unfold VRs at h; subst h; simp; unfold VRs; rfl
  | _ :: _, _, 0, _ => by simp; unfold VRs; rfl
  | a :: as, _, n + 1, h => by
    unfold VRs at h
    obtain ⟨v, r, e, q, t⟩ := h
    subst e
    rw [List.take_succ_cons, List.take_succ_cons]
    unfold VRs
    exact ⟨v, _, rfl, q, VRs.take n t⟩
theorem VRs.drop : ∀ {as : List AV} {xs : List V} (n : Nat), VRs R ι H as xs → VRs R ι H (as.drop n) (xs.drop n)
  | [], _, _, h => by unfold VRs at h; subst h; simp; unfold VRs; rfl
  | _ :: _, _, 0, h => h
  | a :: as, _, n + 1, h => by
    unfold VRs at h
    obtain ⟨v, r, e, q, t⟩ := h
    subst e
    rw [List.drop_succ_cons, List.drop_succ_cons]
    exact VRs.drop n t
theorem VRs.set : ∀ {as : List AV} {xs : List V} {a : AV} {x : V} (n : Nat), VRs R ι H as xs → VR R ι H a x → VRs R ι H (as.set n a) (xs.set n x)
  | [], _, _, _, _, h, _ => by unfold VRs at h; subst h; simp; unfold VRs; rfl
  | b :: as, _, _, _, 0, h, k => by
    unfold VRs at h
    obtain ⟨v, r, e, q, t⟩ := h
    subst e
    rw [List.set_cons_zero, List.set_cons_zero]
    unfold VRs
    exact ⟨_, _, rfl, k, t⟩
  | b :: as, _, _, _, n + 1, h, k => by
    unfold VRs at h
    obtain ⟨v, r, e, q, t⟩ := h
    subst e
    rw [List.set_cons_succ, List.set_cons_succ]
    unfold VRs
    exact ⟨_, _, rfl, q, VRs.set n t k⟩

theorem nodup_at {N : List Addr} (hN : N.Nodup) {i j : Nat} {x : Addr} (a : N[i]? = some x) (b : N[j]? = some x) : i = j := by
  obtain ⟨h1, e1⟩ := List.getElem?_eq_some_iff.mp a
  obtain ⟨h2, e2⟩ := List.getElem?_eq_some_iff.mp b
  exact (List.getElem_inj hN).mp (e1.trans e2.symm)
/-! ### new objects, changed objects -/
theorem SqT.new {K : PySem.W.Frag} {H : Hp} {p q : Addr} {o : HO} {xs : List V} (hp : H p = none) (h : SqT K H q xs) : SqT K (upd H p o) q xs := by
  rcases h with (h | ⟨ob, h⟩) | h
  · exact .inl (.inl (by rw [upd_ne (ne_of_none h hp)]; exact h))
  · exact .inl (.inr ⟨ob, by rw [upd_ne (ne_of_none h hp)]; exact h⟩)
  · exact .inr h
theorem SqL.new {K : PySem.W.Frag} {H : Hp} {p q : Addr} {o : HO} {xs : List V} (hp : H p = none) (h : SqL K H q xs) : SqL K (upd H p o) q xs := by
  rcases h with (h | ⟨ob, h⟩) | h
  · exact .inl (.inl (by rw [upd_ne (ne_of_none h hp)]; exact h))
  · exact .inl (.inr ⟨ob, by rw [upd_ne (ne_of_none h hp)]; exact h⟩)
  · exact .inr h
/-- a thing that A does not name is laid (a tuple): all is as it was -/
theorem Up.laid {p : Addr} {o : HO} (hp : H p = none) : Up R ι ι H (upd H p o) :=
  ⟨⟨[], by simp⟩, fun q xs h => SqT.new hp h, fun q ob fs h => by rw [upd_ne (ne_of_none h hp)]; exact h, fun q fs h => by rw [upd_ne (ne_of_none h hp)]; exact h, fun q u h _ => by rw [upd_ne (ne_of_none h hp)]; exact h, fun q h => by
    by_cases e : q = p
    · subst e; exact hp
    · rw [upd_ne e] at h; exact h⟩
theorem Up.grow {p : Addr} {o : HO} (hp : H p = none) : Up R ι (ι ++ [p]) H (upd H p o) :=
  ⟨⟨[p], rfl, fun b hb => by rw [List.mem_singleton.mp hb]; exact hp⟩, fun q xs h => SqT.new hp h, fun q ob fs h => by rw [upd_ne (ne_of_none h hp)]; exact h, fun q fs h => by rw [upd_ne (ne_of_none h hp)]; exact h, fun q u h _ => by rw [upd_ne (ne_of_none h hp)]; exact h, fun q h => by
    by_cases e : q = p
    · subst e; exact hp
    · rw [upd_ne e] at h; exact h⟩
theorem Up.upd {a : Addr} {o o' : HO} (ha : H a = some o) (hm : Mut (some o)) (hn : a ∈ ι) : Up R ι ι H (upd H a o') := by
  have ne : ∀ q u, H q = some u → ¬ Mut (some u) → q ≠ a := fun q u e nm z => by subst z; rw [ha] at e; cases e; exact nm hm
  refine ⟨⟨[], by simp⟩, fun q xs h => ?_, fun q ob fs h => ?_, fun q fs h => ?_, fun q u h n => ?_, fun q h => ?_⟩
  · rcases h with (h | ⟨ob, h⟩) | h
    · exact .inl (.inl (by rw [upd_ne (ne _ _ h fun z => z)]; exact h))
    · exact .inl (.inr ⟨ob, by rw [upd_ne (ne _ _ h fun z => z)]; exact h⟩)
    · exact .inr h
  · rw [upd_ne (ne _ _ h fun z => z)]
    exact h
  · rw [upd_ne (ne _ _ h fun z => z)]
    exact h
  · rw [upd_ne (fun (z : q = a) => n (by rw [z]; exact hn))]
    exact h
  · by_cases e : q = a
    · subst e
      rw [upd_same] at h
      cases h
    · rw [upd_ne e] at h
      exact h
/-- what is tracked of it -/
theorem OR.ho {a : Addr} {o : AO} (h : OR R ι H a o) : ∃ u, H a = some u ∧ Mut (some u) := by
  cases o with
  | lst xs => obtain ⟨vs, e, _⟩ := h; exact ⟨_, e, True.intro⟩
  | dct kvs => obtain ⟨vs, e, _⟩ := h; exact ⟨_, e, True.intro⟩
  | ins c fs => obtain ⟨_, _, _, _, e, _⟩ := h; exact ⟨_, e, True.intro⟩
/-- an object that did not change -/
theorem OR.up {a : Addr} {o : AO} (u : Up R ι ι' H H') (k : ∀ w, H a = some w → H' a = some w) (h : OR R ι H a o) : OR R ι' H' a o := by
  cases o with
  | lst xs => obtain ⟨vs, e, r⟩ := h; exact ⟨vs, k _ e, r.up u⟩
  | dct kvs => obtain ⟨vs, e, r⟩ := h; exact ⟨vs, k _ e, r.up u⟩
  | ins c fs => obtain ⟨C, dx, fs', e1, e, r⟩ := h; exact ⟨C, dx, fs', e1, k _ e, r.up u⟩
mutual
theorem VR.pre {ι' : List Addr} (z : ∃ τ, ι' = ι ++ τ) : ∀ {a : AV} {x : V}, VR R ι H a x → VR R ι' H a x
  | .non, _, h => by unfold VR at h ⊢; exact h
  | .bl _, _, h => by unfold VR at h ⊢; exact h
  | .int _, _, h => by unfold VR at h ⊢; exact h
  | .str _, _, h => by unfold VR at h ⊢; exact h
  | .ty _, _, h => by unfold VR at h ⊢; exact h
  | .cls _, _, h => by unfold VR at h ⊢; exact h
  | .ref n, _, h => by
    unfold VR at h ⊢
    obtain ⟨a, e, q⟩ := h
    obtain ⟨τ, e'⟩ := z
    exact ⟨a, by rw [e', List.getElem?_append_left (List.getElem?_eq_some_iff.mp e).1]; exact e, q⟩
  | .tup xs, _, h => by
    unfold VR at h ⊢
    obtain ⟨p, vs, e, q, r⟩ := h
    exact ⟨p, vs, e, q, VRs.pre z r⟩
  | .fl xs, _, h => by
    unfold VR at h ⊢
    obtain ⟨p, vs, e, q, r⟩ := h
    exact ⟨p, vs, e, q, VRs.pre z r⟩
  | .gd _ _, _, h => by unfold VR at h ⊢; exact h
theorem VRs.pre {ι' : List Addr} (z : ∃ τ, ι' = ι ++ τ) : ∀ {as : List AV} {xs : List V}, VRs R ι H as xs → VRs R ι' H as xs
  | [], _, h => by unfold VRs at h ⊢; exact h
  | a :: as, _, h => by
    unfold VRs at h ⊢
    obtain ⟨v, r, e, q, t⟩ := h
    exact ⟨v, r, e, VR.pre z q, VRs.pre z t⟩
end
theorem FR.pre {ι' : List Addr} (z : ∃ τ, ι' = ι ++ τ) : ∀ {as : List (Str × AV)} {xs : List (Str × V)}, FR R ι H as xs → FR R ι' H as xs
  | [], _, h => by unfold FR at h ⊢; exact h
  | (f, a) :: as, _, h => by
    unfold FR at h ⊢
    obtain ⟨v, r, e, q, t⟩ := h
    exact ⟨v, r, e, VR.pre z q, FR.pre z t⟩
theorem KR.pre {ι' : List Addr} (z : ∃ τ, ι' = ι ++ τ) : ∀ {as : List (Key × AV)} {xs : List (Key × V)}, KR R ι H as xs → KR R ι' H as xs
  | [], _, h => by unfold KR at h ⊢; exact h
  | (f, a) :: as, _, h => by
    unfold KR at h ⊢
    obtain ⟨v, r, e, q, t⟩ := h
    exact ⟨v, r, e, VR.pre z q, KR.pre z t⟩
theorem OR.pre {ι' : List Addr} {a : Addr} {o : AO} (z : ∃ τ, ι' = ι ++ τ) (h : OR R ι H a o) : OR R ι' H a o := by
  cases o with
  | lst xs => obtain ⟨vs, e, r⟩ := h; exact ⟨vs, e, r.pre z⟩
  | dct kvs => obtain ⟨vs, e, r⟩ := h; exact ⟨vs, e, r.pre z⟩
  | ins c fs => obtain ⟨C, dx, fs', e1, e, r⟩ := h; exact ⟨C, dx, fs', e1, e, r.pre z⟩
theorem Emb.there {A : AH} (m : Emb R ι A H) {n : Nat} {o : AO} (e : A[n]? = some o) : ∃ a, ι[n]? = some a ∧ OR R ι H a o := by
  have hl : n < ι.length := by rw [m.len]; exact (List.getElem?_eq_some_iff.mp e).1
  exact ⟨ι[n], by rw [List.getElem?_eq_getElem hl], m.obj n o _ e (by rw [List.getElem?_eq_getElem hl])⟩
theorem Emb.mem {A : AH} (m : Emb R ι A H) {a : Addr} (h : a ∈ ι) : ∃ u, H a = some u ∧ Mut (some u) := by
  obtain ⟨n, hn⟩ := List.getElem?_of_mem h
  have hl : n < A.length := by rw [← m.len]; exact (List.getElem?_eq_some_iff.mp hn).1
  exact (m.obj n _ a (List.getElem?_eq_getElem hl) hn).ho
theorem Emb.new {A : AH} (m : Emb R ι A H) {p : Addr} (hp : H p = none) : p ∉ ι := fun h => by
  obtain ⟨u, hu, _⟩ := m.mem h
  rw [hp] at hu
  cases hu
/-- a tuple (or anything that A does not name) is laid -/
theorem Emb.laid {A : AH} {p : Addr} {o : HO} (m : Emb R ι A H) (hp : H p = none) : Emb R ι A (upd H p o) :=
  ⟨m.len, m.nd, fun n w a e q => (m.obj n w a e q).up (Up.laid hp) fun v z => by rw [upd_ne (ne_of_none z hp)]; exact z⟩
theorem splitA {A : AH} {w : AO} {n : Nat} {v : AO} (e : (A ++ [w])[n]? = some v) : A[n]? = some v ∨ (n = A.length ∧ v = w) := by
  by_cases hn : n < A.length
  · rw [List.getElem?_append_left hn] at e
    exact .inl e
  · have hlt := (List.getElem?_eq_some_iff.mp e).1
    rw [List.length_append, List.length_singleton] at hlt
    have hn' : n = A.length := by omega
    subst hn'
    simp at e
    exact .inr ⟨rfl, e.symm⟩
/-- an object that stood unnamed gets a name -/
theorem Emb.name {A : AH} {p : Addr} {w : AO} (m : Emb R ι A H) (hn : p ∉ ι) (hw : OR R (ι ++ [p]) H p w) : Emb R (ι ++ [p]) (A ++ [w]) H := by
  refine ⟨by rw [List.length_append, List.length_append, m.len]; rfl, ?_, fun n v a e q => ?_⟩
  · rw [List.nodup_append]
    exact ⟨m.nd, by simp, fun a ha b hb z => hn (by rw [List.mem_singleton.mp hb] at z; rw [← z]; exact ha)⟩
  · rcases splitA e with e1 | ⟨rfl, rfl⟩
    · rw [List.getElem?_append_left (by rw [m.len]; exact (List.getElem?_eq_some_iff.mp e1).1)] at q
      exact OR.pre ⟨[p], rfl⟩ (m.obj n v a e1 q)
    · rw [← m.len] at q
      simp at q
      subst q
      exact hw
/-- a new object -/
theorem Emb.grow {A : AH} {p : Addr} {o : HO} {w : AO} (m : Emb R ι A H) (hp : H p = none) (hw : OR R (ι ++ [p]) (upd H p o) p w) : Emb R (ι ++ [p]) (A ++ [w]) (upd H p o) := (m.laid hp).name (m.new hp) hw
/-- an object is changed -/
theorem Emb.set {A : AH} {n : Nat} {a : Addr} {v w : AO} {o : HO} (m : Emb R ι A H) (e : A[n]? = some v) (ha : ι[n]? = some a) (hw : OR R ι (upd H a o) a w) : Up R ι ι H (upd H a o) ∧ Emb R ι (A.set n w) (upd H a o) := by
  obtain ⟨u, hu, mu⟩ := (m.obj n v a e ha).ho
  have U : Up R ι ι H (upd H a o) := Up.upd hu mu (List.mem_of_getElem? ha)
  have hn : n < A.length := (List.getElem?_eq_some_iff.mp e).1
  refine ⟨U, by rw [List.length_set]; exact m.len, m.nd, fun i x b q r => ?_⟩
  by_cases hi : n = i
  · subst hi
    rw [List.getElem?_set_self hn] at q
    cases q
    rw [ha] at r
    cases r
    exact hw
  · rw [List.getElem?_set_ne hi] at q
    refine (m.obj i x b q r).up U fun z hz => ?_
    rw [upd_ne (fun z2 => hi (by subst z2; exact nodup_at m.nd ha r))]
    exact hz
end
end Sh

set_option Elab.async false
set_option linter.all false
set_option maxRecDepth 100000
set_option maxHeartbeats 2000000
namespace Sh
open PySem L2

/-! ### simulation -/
def XR (R : Rc) (ι : List Addr) (H : Hp) (c : Str) (fs : List (Str × AV)) (cls : Value) (d : Option Addr) : Prop :=
  ∃ C dd fs', R.cl c = some C ∧ cls = .ref C ∧ d = some dd ∧ H dd = some (.xd fs') ∧ FR R ι H fs fs'
def Then {α β : Type} (R : Rc) (rel : List Addr → Hp → α → β → Prop) (r : Res α) (ι : List Addr) (H : Hp) (Q : β → Hp → Prop) (E : XK) : Prop :=
  match r with
  | .ok a A' => ∀ ι' H' b, Up R ι ι' H H' → Emb R ι' A' H' → rel ι' H' a b → Q b H'
  | .exc c fs A' => ∀ ι' H' cls d, Up R ι ι' H H' → Emb R ι' A' H' → XR R ι' H' c fs cls d → E cls d H'
  | .bad => False
def eqR {α : Type} : List Addr → Hp → α → α → Prop := fun _ _ a b => a = b
def Sim {α β : Type} (R : Rc) (rel : List Addr → Hp → α → β → Prop) (W : WX) (t : St → Hp → (β → Hp → Prop) → Prop) (f : LSt → AH → Res α) : Prop :=
  ∀ (σ : St) (ℓ : LSt) (H : Hp) (ι : List Addr) (A : AH) (Q : β → Hp → Prop), LR R ι H ℓ σ → Emb R ι A H → Then R rel (f ℓ A) ι H Q (fun c d H' => W c d σ H') → t σ H Q
def ThenS (R : Rc) (r : SRes) (ι : List Addr) (H : Hp) (D : Ends) (W : WX) : Prop :=
  match r with
  | .nx ℓ' A' => ∀ ι' H' σ', Up R ι ι' H H' → Emb R ι' A' H' → LR R ι' H' ℓ' σ' → D.nx σ' H'
  | .rt v A' => ∀ ι' H' x, Up R ι ι' H H' → Emb R ι' A' H' → VR R ι' H' v x → D.rt x H'
  | .bk ℓ' A' => ∀ ι' H' σ', Up R ι ι' H H' → Emb R ι' A' H' → LR R ι' H' ℓ' σ' → D.bk σ' H'
  | .ct ℓ' A' => ∀ ι' H' σ', Up R ι ι' H H' → Emb R ι' A' H' → LR R ι' H' ℓ' σ' → D.ct σ' H'
  | .exc c fs ℓ' A' => ∀ ι' H' σ' cls d, Up R ι ι' H H' → Emb R ι' A' H' → LR R ι' H' ℓ' σ' → XR R ι' H' c fs cls d → W cls d σ' H'
  | .bad => False
def SimS (R : Rc) (W : WX) (t : TS) (f : SF) : Prop :=
  ∀ (D : Ends) (σ : St) (ℓ : LSt) (H : Hp) (ι : List Addr) (A : AH), LR R ι H ℓ σ → Emb R ι A H → ThenS R (f ℓ A) ι H D W → t D σ H

def SE (R : Rc) (X : Cx) (W : WX) (e : Expr) (f : EF) : Prop := ∃ t, PE X e t ∧ Sim R (VR R) W t f
def ST (R : Rc) (X : Cx) (W : WX) (e : Expr) (f : TF) : Prop := ∃ t, PT X e t ∧ Sim R eqR W t f
def SA (R : Rc) (X : Cx) (W : WX) (es : List Expr) (f : AF) : Prop := ∃ t, PA X es t ∧ Sim R (VRs R) W t f
def SS (R : Rc) (X : Cx) (W : WX) (st : Stmt) (f : SF) : Prop := ∃ t, PS X st t ∧ SimS R W t f
def SSs (R : Rc) (X : Cx) (W : WX) (st : List Stmt) (f : SF) : Prop := ∃ t, PSs X st t ∧ SimS R W t f

section
variable {R : Rc} {ι ι' : List Addr} {H H' : Hp} {E : XK} {W : WX} {α β γ δ : Type} {rel : List Addr → Hp → α → β → Prop} {rel' : List Addr → Hp → γ → δ → Prop}
theorem Then.up {r : Res α} {Q : β → Hp → Prop} (u : Up R ι ι' H H') (h : Then R rel r ι H Q E) : Then R rel r ι' H' Q E := by
  cases r with
  | ok a A => exact fun ι2 H2 b u2 m2 q => h ι2 H2 b (u.trans u2) m2 q
  | exc c fs A => exact fun ι2 H2 c d u2 m2 q => h ι2 H2 c d (u.trans u2) m2 q
  | bad => exact h
theorem ThenS.up {r : SRes} {D : Ends} (u : Up R ι ι' H H') (h : ThenS R r ι H D W) : ThenS R r ι' H' D W := by
  cases r with
  | nx ℓ A => exact fun ι2 H2 b u2 m2 q => h ι2 H2 b (u.trans u2) m2 q
  | rt ℓ A => exact fun ι2 H2 b u2 m2 q => h ι2 H2 b (u.trans u2) m2 q
  | bk ℓ A => exact fun ι2 H2 b u2 m2 q => h ι2 H2 b (u.trans u2) m2 q
  | ct ℓ A => exact fun ι2 H2 b u2 m2 q => h ι2 H2 b (u.trans u2) m2 q
  | exc c fs ℓ A => exact fun ι2 H2 σ c d u2 m2 l q => h ι2 H2 σ c d (u.trans u2) m2 l q
  | bad => exact h
theorem Then.bind {r : Res α} {k : α → AH → Res γ} {Q : δ → Hp → Prop} {P : β → Hp → Prop} (h : Then R rel' (r.bind k) ι H Q E)
    (hk : ∀ a A' ι' H' b, Up R ι ι' H H' → Emb R ι' A' H' → rel ι' H' a b → Then R rel' (k a A') ι' H' Q E → P b H') : Then R rel r ι H P E := by
  cases r with
  | ok a A => exact fun ι2 H2 b u2 m2 q => hk a A ι2 H2 b u2 m2 q (Then.up u2 h)
  | exc c fs A => exact h
  | bad => exact h
theorem ThenS.ofE {r : Res α} {ℓ : LSt} {σ : St} {k : α → AH → SRes} {D : Ends} {P : β → Hp → Prop} (L : LR R ι H ℓ σ) (h : ThenS R (r.toS ℓ k) ι H D W)
    (hk : ∀ a A' ι' H' b, Up R ι ι' H H' → Emb R ι' A' H' → rel ι' H' a b → LR R ι' H' ℓ σ → ThenS R (k a A') ι' H' D W → P b H') : Then R rel r ι H P (fun c d H' => W c d σ H') := by
  cases r with
  | ok a A => exact fun ι2 H2 b u2 m2 q => hk a A ι2 H2 b u2 m2 q (L.up u2) (ThenS.up u2 h)
  | exc c fs A => exact fun ι2 H2 cls d u2 m2 q => h ι2 H2 σ cls d u2 m2 (L.up u2) q
  | bad => exact h
/-- at an end: nothing changed -/
theorem Then.here {a : α} {A : AH} {Q : β → Hp → Prop} {b : β} (h : Then R rel (.ok a A) ι H Q E) (m : Emb R ι A H) (r : rel ι H a b) : Q b H := h ι H b (Up.refl R ι H) m r
theorem Then.tupNew {xs : List AV} {A : AH} {Q : VK} {vs : List V} (h : Then R (VR R) (.ok (.tup xs) A) ι H Q E) (m : Emb R ι A H) (r : VRs R ι H xs vs) : ∀ p, H p = none → Q (.ref p) (upd H p (.tup vs)) := fun p hp =>
  h ι _ _ (Up.laid hp) (m.laid hp) (by unfold VR; exact ⟨p, vs, rfl, SqT.of upd_same, r.up (Up.laid hp)⟩)
theorem Then.lstNew {xs : List AV} {A : AH} {Q : VK} {vs : List V} (h : Then R (VR R) (.ok (.ref A.length) (A ++ [.lst xs])) ι H Q E) (m : Emb R ι A H) (r : VRs R ι H xs vs) : ∀ p, H p = none → Q (.ref p) (upd H p (.lst vs)) := fun p hp =>
  h (ι ++ [p]) _ _ (Up.grow hp) (m.grow hp ⟨vs, upd_same, r.up (Up.grow hp)⟩) (by unfold VR; exact ⟨p, by rw [← m.len]; simp, rfl⟩)
end

/-! ### expressions: functions -/
def eC (v : AV) : EF := fun _ A => .ok v A
def eVar (i : Nat) : EF := fun ℓ A => match ℓ[i]? with | some (some v) => .ok v A | _ => .bad
def eOp (g : AV → AV → AH → Res AV) (f1 f2 : EF) : EF := fun ℓ A => (f1 ℓ A).bind fun a A => (f2 ℓ A).bind fun b A => g a b A
def eUn (g : AV → AH → Res AV) (f1 : EF) : EF := fun ℓ A => (f1 ℓ A).bind fun a A => g a A
def aNil : AF := fun _ A => .ok [] A
def aCons (f : EF) (r : AF) : AF := fun ℓ A => (f ℓ A).bind fun a A => (r ℓ A).bind fun as A => .ok (a :: as) A
def eTup (f : AF) : EF := fun ℓ A => (f ℓ A).bind fun as A => if as.length ≤ sizeLine then .ok (.tup as) A else .bad
def eLst (f : AF) : EF := fun ℓ A => (f ℓ A).bind fun as A => if as.length ≤ sizeLine then .ok (.ref A.length) (A ++ [.lst as]) else .bad
def eIf (t : TF) (f g : EF) : EF := fun ℓ A => (t ℓ A).bind fun b A => if b then f ℓ A else g ℓ A
def tNotF (t : TF) : TF := fun ℓ A => (t ℓ A).bind fun b A => .ok (!b) A
def tAndF (t u : TF) : TF := fun ℓ A => (t ℓ A).bind fun b A => if b then u ℓ A else .ok false A
def tOrF (t u : TF) : TF := fun ℓ A => (t ℓ A).bind fun b A => if b then .ok true A else u ℓ A
def asBl (a : AV) (A : AH) : Res Bool := match a with | .bl b => .ok b A | _ => .bad
def tOfE (f : EF) : TF := fun ℓ A => (f ℓ A).bind asBl
def eAndF (f g : EF) : EF := fun ℓ A => (f ℓ A).bind fun a A => match a with | .bl b => if b then g ℓ A else .ok (.bl false) A | _ => .bad
def eOrF (f g : EF) : EF := fun ℓ A => (f ℓ A).bind fun a A => match a with | .bl b => if b then .ok (.bl true) A else g ℓ A | _ => .bad
def eNotF (f : EF) : EF := fun ℓ A => (f ℓ A).bind fun a A => match a with | .bl b => .ok (.bl (!b)) A | _ => .bad

/-- an operation's simulation -/
def SimO (R : Rc) (r : R2) (g : AV → AV → AH → Res AV) : Prop :=
  ∀ a b x y H ι A Q E, Emb R ι A H → VR R ι H a x → VR R ι H b y → Then R (VR R) (g a b A) ι H Q E → r x y H Q
def SimU (R : Rc) (r : V → Hp → VK → Prop) (g : AV → AH → Res AV) : Prop :=
  ∀ a x H ι A Q E, Emb R ι A H → VR R ι H a x → Then R (VR R) (g a A) ι H Q E → r x H Q
def SimC (R : Rc) (r : List V → Hp → VK → Prop) (g : List AV → AH → Res AV) : Prop :=
  ∀ as xs H ι A Q E, Emb R ι A H → VRs R ι H as xs → Then R (VR R) (g as A) ι H Q E → r xs H Q

section
variable {R : Rc} {X : Cx} {W : WX} {a b c : Expr} {es : List Expr} {fa fb fc : EF} {ta tb tc : TE} {pos : Pos}
theorem sim_c {v : AV} {x : V} (h : ∀ ι H, VR R ι H v x) : Sim R (VR R) W (tC x) (eC v) := fun σ ℓ H ι A Q L M q => q.here M (h ι H)
theorem sim_var {i : Nat} : Sim R (VR R) W (tVar i) (eVar i) := fun σ ℓ H ι A Q L M q => by
  unfold eVar at q
  split at q
  · rename_i v e
    obtain ⟨x, h1, h2⟩ := L.2 i v e
    exact ⟨x, h1, q.here M h2⟩
  · exact False.elim q
theorem sim_op {r : R2} {g : AV → AV → AH → Res AV} (ha : Sim R (VR R) W ta fa) (hb : Sim R (VR R) W tb fb) (hr : SimO R r g) : Sim R (VR R) W (tOp r ta tb) (eOp g fa fb) := fun σ ℓ H ι A Q L M q =>
  ha σ ℓ H ι A _ L M (q.bind fun a1 A1 ι1 H1 x U1 M1 v1 q1 => hb σ ℓ H1 ι1 A1 _ (L.up U1) M1 (q1.bind fun a2 A2 ι2 H2 y U2 M2 v2 q2 => hr _ _ _ _ _ _ _ _ _ M2 (v1.up U2) v2 q2))
theorem sim_un {r : V → Hp → VK → Prop} {g : AV → AH → Res AV} (ha : Sim R (VR R) W ta fa) (hr : SimU R r g) : Sim R (VR R) W (tUn r ta) (eUn g fa) := fun σ ℓ H ι A Q L M q =>
  ha σ ℓ H ι A _ L M (q.bind fun a1 A1 ι1 H1 x U1 M1 v1 q1 => hr _ _ _ _ _ _ _ M1 v1 q1)
theorem sim_nil : Sim R (VRs R) W tNil aNil := fun σ ℓ H ι A Q L M q => q.here M (by unfold VRs; rfl)
theorem sim_cons {t : TA} {f : AF} (ha : Sim R (VR R) W ta fa) (hr : Sim R (VRs R) W t f) : Sim R (VRs R) W (tCons ta t) (aCons fa f) := fun σ ℓ H ι A Q L M q =>
  ha σ ℓ H ι A _ L M (q.bind fun a1 A1 ι1 H1 x U1 M1 v1 q1 => hr σ ℓ H1 ι1 A1 _ (L.up U1) M1 (q1.bind fun a2 A2 ι2 H2 y U2 M2 v2 q2 => q2.here M2 (by unfold VRs; exact ⟨x, y, rfl, v1.up U2, v2⟩)))
theorem sim_tup {t : TA} {f : AF} (h : Sim R (VRs R) W t f) : Sim R (VR R) W (tTup t) (eTup f) := fun σ ℓ H ι A Q L M q =>
  h σ ℓ H ι A _ L M (q.bind fun as A1 ι1 H1 xs U1 M1 v1 q1 => by
    by_cases hl : as.length ≤ sizeLine
    · rw [if_pos hl] at q1
      exact ⟨by rw [← v1.length]; exact hl, q1.tupNew M1 v1⟩
    · rw [if_neg hl] at q1
      exact False.elim q1)
theorem sim_lst {t : TA} {f : AF} (h : Sim R (VRs R) W t f) : Sim R (VR R) W (tLst t) (eLst f) := fun σ ℓ H ι A Q L M q =>
  h σ ℓ H ι A _ L M (q.bind fun as A1 ι1 H1 xs U1 M1 v1 q1 => by
    by_cases hl : as.length ≤ sizeLine
    · rw [if_pos hl] at q1
      exact ⟨by rw [← v1.length]; exact hl, q1.lstNew M1 v1⟩
    · rw [if_neg hl] at q1
      exact False.elim q1)
theorem sim_if {t : TT} {ft : TF} (ht : Sim R eqR W t ft) (ha : Sim R (VR R) W ta fa) (hb : Sim R (VR R) W tb fb) : Sim R (VR R) W (tIf t ta tb) (eIf ft fa fb) := fun σ ℓ H ι A Q L M q =>
  ht σ ℓ H ι A _ L M (q.bind fun k A1 ι1 H1 x U1 M1 v1 q1 => by
    cases v1
    cases k with
    | true => exact ha σ ℓ H1 ι1 A1 _ (L.up U1) M1 q1
    | false => exact hb σ ℓ H1 ι1 A1 _ (L.up U1) M1 q1)
theorem sim_not {t : TT} {ft : TF} (ht : Sim R eqR W t ft) : Sim R eqR W (tNot t) (tNotF ft) := fun σ ℓ H ι A Q L M q =>
  ht σ ℓ H ι A _ L M (q.bind fun k A1 ι1 H1 x U1 M1 v1 q1 => by
    cases v1
    exact q1.here M1 rfl)
theorem sim_and {t u : TT} {ft fu : TF} (ht : Sim R eqR W t ft) (hu : Sim R eqR W u fu) : Sim R eqR W (tAnd t u) (tAndF ft fu) := fun σ ℓ H ι A Q L M q =>
  ht σ ℓ H ι A _ L M (q.bind fun k A1 ι1 H1 x U1 M1 v1 q1 => by
    cases v1
    cases k with
    | true => exact hu σ ℓ H1 ι1 A1 _ (L.up U1) M1 q1
    | false => exact q1.here M1 rfl)
theorem sim_or {t u : TT} {ft fu : TF} (ht : Sim R eqR W t ft) (hu : Sim R eqR W u fu) : Sim R eqR W (tOr t u) (tOrF ft fu) := fun σ ℓ H ι A Q L M q =>
  ht σ ℓ H ι A _ L M (q.bind fun k A1 ι1 H1 x U1 M1 v1 q1 => by
    cases v1
    cases k with
    | true => exact q1.here M1 rfl
    | false => exact hu σ ℓ H1 ι1 A1 _ (L.up U1) M1 q1)
theorem VR.bl_inv {ι : List Addr} {H : Hp} {a : AV} {x : V} {b : Bool} (e : a = .bl b) (h : VR R ι H a x) : x = .bl b := by
  subst e
  unfold VR at h
  exact h
theorem sim_test (ha : Sim R (VR R) W ta fa) : Sim R eqR W (tTest ta) (tOfE fa) := fun σ ℓ H ι A Q L M q =>
  ha σ ℓ H ι A _ L M (q.bind fun a1 A1 ι1 H1 x U1 M1 v1 q1 => by
    cases a1 with
    | bl k =>
      unfold VR at v1
      exact ⟨k, v1, q1.here M1 rfl⟩
    | _ => exact False.elim q1)
theorem sim_tB (ha : Sim R (VR R) W ta fa) : Sim R eqR W (tB ta) (tOfE fa) := sim_test ha
theorem sim_andV (ha : Sim R (VR R) W ta fa) (hb : Sim R (VR R) W tb fb) : Sim R (VR R) W (tAndV ta tb) (eAndF fa fb) := fun σ ℓ H ι A Q L M q =>
  ha σ ℓ H ι A _ L M (q.bind fun a1 A1 ι1 H1 x U1 M1 v1 q1 => by
    cases a1 with
    | bl k =>
      unfold VR at v1
      refine ⟨k, v1, ?_⟩
      cases k with
      | true => exact hb σ ℓ H1 ι1 A1 _ (L.up U1) M1 q1
      | false => exact q1.here M1 (by unfold VR; rfl)
    | _ => exact False.elim q1)
theorem sim_orV (ha : Sim R (VR R) W ta fa) (hb : Sim R (VR R) W tb fb) : Sim R (VR R) W (tOrV ta tb) (eOrF fa fb) := fun σ ℓ H ι A Q L M q =>
  ha σ ℓ H ι A _ L M (q.bind fun a1 A1 ι1 H1 x U1 M1 v1 q1 => by
    cases a1 with
    | bl k =>
      unfold VR at v1
      refine ⟨k, v1, ?_⟩
      cases k with
      | true => exact q1.here M1 (by unfold VR; rfl)
      | false => exact hb σ ℓ H1 ι1 A1 _ (L.up U1) M1 q1
    | _ => exact False.elim q1)
theorem sim_notV (ha : Sim R (VR R) W ta fa) : Sim R (VR R) W (tNotV ta) (eNotF fa) := fun σ ℓ H ι A Q L M q =>
  ha σ ℓ H ι A _ L M (q.bind fun a1 A1 ι1 H1 x U1 M1 v1 q1 => by
    cases a1 with
    | bl k =>
      unfold VR at v1
      exact ⟨k, v1, q1.here M1 (by unfold VR; rfl)⟩
    | _ => exact False.elim q1)
end
end Sh

set_option Elab.async false
set_option linter.all false
set_option maxRecDepth 100000
set_option maxHeartbeats 2000000
namespace Sh
open PySem L2 PyProof.Rows

/-! ### inversion of VR -/
section
variable {R : Rc} {ι : List Addr} {H : Hp} {x : V}
theorem vr_non (h : VR R ι H .non x) : x = .non := by unfold VR at h; exact h
theorem vr_bl {b : Bool} (h : VR R ι H (.bl b) x) : x = .bl b := by unfold VR at h; exact h
theorem vr_int {i : Int} (h : VR R ι H (.int i) x) : x = .int i := by unfold VR at h; exact h
theorem vr_str {i : Str} (h : VR R ι H (.str i) x) : x = .str i := by unfold VR at h; exact h
theorem vr_tup {xs : List AV} (h : VR R ι H (.tup xs) x) : ∃ p vs, x = .ref p ∧ SqT R.K H p vs ∧ VRs R ι H xs vs := by unfold VR at h; exact h
theorem vr_ref {n : Nat} (h : VR R ι H (.ref n) x) : ∃ a, ι[n]? = some a ∧ x = .ref a := by unfold VR at h; exact h
theorem vr_fl {xs : List AV} (h : VR R ι H (.fl xs) x) : ∃ p vs, x = .ref p ∧ FzL R.K H p vs ∧ VRs R ι H xs vs := by unfold VR at h; exact h
theorem mk_non : VR R ι H .non .non := by unfold VR; rfl
theorem mk_bl {b : Bool} : VR R ι H (.bl b) (.bl b) := by unfold VR; rfl
theorem mk_int {i : Int} : VR R ι H (.int i) (.int i) := by unfold VR; rfl
theorem mk_str {i : Str} : VR R ι H (.str i) (.str i) := by unfold VR; rfl
theorem mk_tup {xs : List AV} {p : Addr} {vs : List V} (h : SqT R.K H p vs) (r : VRs R ι H xs vs) : VR R ι H (.tup xs) (.ref p) := by unfold VR; exact ⟨p, vs, rfl, h, r⟩
theorem mk_ref {n : Nat} {a : Addr} (h : ι[n]? = some a) : VR R ι H (.ref n) (.ref a) := by unfold VR; exact ⟨a, h, rfl⟩
def AH.lst? (A : AH) (n : Nat) : Option (List AV) := match A[n]? with
  | some (.lst xs) => some xs
  | _ => none
def AH.dct? (A : AH) (n : Nat) : Option (List (Key × AV)) := match A[n]? with
  | some (.dct xs) => some xs
  | _ => none
theorem lst_at {A : AH} {n : Nat} {xs : List AV} (h : A.lst? n = some xs) : A[n]? = some (.lst xs) := by
  unfold AH.lst? at h
  split at h
  · rename_i ys e
    cases h
    exact e
  · cases h
theorem dct_at {A : AH} {n : Nat} {xs : List (Key × AV)} (h : A.dct? n = some xs) : A[n]? = some (.dct xs) := by
  unfold AH.dct? at h
  split at h
  · rename_i ys e
    cases h
    exact e
  · cases h
theorem lst_rd {A : AH} {n : Nat} {xs : List AV} {a : Addr} (m : Emb R ι A H) (h : A.lst? n = some xs) (ha : ι[n]? = some a) : ∃ vs, H a = some (.lst vs) ∧ VRs R ι H xs vs := m.obj n _ a (lst_at h) ha
/-- a value that is read as a list -/
def sq? (a : AV) (A : AH) : Option (List AV) := match a with
  | .ref n => A.lst? n
  | .fl xs => some xs
  | _ => none
theorem sq_rd {A : AH} {a : AV} {xs : List AV} {x : V} (m : Emb R ι A H) (h : sq? a A = some xs) (r : VR R ι H a x) : ∃ p vs, x = .ref p ∧ SqL R.K H p vs ∧ VRs R ι H xs vs := by
  unfold sq? at h
  split at h
  · obtain ⟨p, hp, rfl⟩ := vr_ref r
    obtain ⟨vs, h1, h2⟩ := lst_rd m h hp
    exact ⟨p, vs, rfl, SqL.of h1, h2⟩
  · cases h
    obtain ⟨p, vs, rfl, h1, h2⟩ := vr_fl r
    exact ⟨p, vs, rfl, h1.sq, h2⟩
  · cases h
theorem dct_rd {A : AH} {n : Nat} {xs : List (Key × AV)} {a : Addr} (m : Emb R ι A H) (h : A.dct? n = some xs) (ha : ι[n]? = some a) : ∃ vs, H a = some (.dK vs) ∧ KR R ι H xs vs := m.obj n _ a (dct_at h) ha
end

/-! ### data -/
def atomD : AV → Option PyData
  | .non => some .none
  | .bl b => some (.bool b)
  | .int i => some (.int i)
  | .str x => some (.str x)
  | _ => none
def datsBy (f : AV → Option PyData) : List AV → Option (List PyData)
  | [] => some []
  | a :: as => match f a, datsBy f as with | some d, some ds => some (d :: ds) | _, _ => none
def dat (A : AH) : Nat → AV → Option PyData
  | 0, v => atomD v
  | n + 1, v => match v with
    | .tup xs => (datsBy (dat A n) xs).map .tuple
    | v => match sq? v A with
      | some xs => (datsBy (dat A n) xs).map .list
      | none => atomD v
section
variable {R : Rc} {ι : List Addr} {H : Hp} {A : AH}
theorem atomD_ok {v : AV} {x : V} {d : PyData} (h : atomD v = some d) (r : VR R ι H v x) : Dp R.K H x d ∧ d.plain = true ∧ d.depth = 0 := by
  cases v <;> simp only [atomD] at h <;> cases h
  · rw [vr_non r]; exact ⟨.non, rfl, by simp [PyData.depth]⟩
  · rw [vr_bl r]; exact ⟨.bl _, rfl, by simp [PyData.depth]⟩
  · rw [vr_int r]; exact ⟨.int _, rfl, by simp [PyData.depth]⟩
  · rw [vr_str r]; exact ⟨.str _, rfl, by simp [PyData.depth]⟩
theorem datsBy_ok {f : AV → Option PyData} {n : Nat} (hf : ∀ v x d, f v = some d → VR R ι H v x → Dp R.K H x d ∧ d.plain = true ∧ d.depth ≤ n) :
    ∀ {xs : List AV} {vs : List V} {ds : List PyData}, datsBy f xs = some ds → VRs R ι H xs vs → DpAll R.K H vs ds ∧ PyData.plainAll ds = true ∧ PyData.depthAll ds ≤ n
  | [], _, _, h, r => by
    unfold datsBy at h
    cases h
    unfold VRs at r
    subst r
    exact ⟨.nil, rfl, by simp [PyData.depthAll]⟩
  | a :: as, _, _, h, r => by
    unfold datsBy at h
    unfold VRs at r
    obtain ⟨v, vs, rfl, r1, r2⟩ := r
    split at h
    · rename_i d ds e1 e2
      cases h
      obtain ⟨h1, h2, h3⟩ := hf _ _ _ e1 r1
      obtain ⟨k1, k2, k3⟩ := datsBy_ok hf e2 r2
      refine ⟨.cons h1 k1, ?_, ?_⟩
      · show (d.plain && PyData.plainAll ds) = true
        rw [h2, k2]; rfl
      · simp only [PyData.depthAll]
        omega
    · cases h
theorem dat_ok (m : Emb R ι A H) : ∀ (n : Nat) (v : AV) (x : V) (d : PyData), dat A n v = some d → VR R ι H v x → Dp R.K H x d ∧ d.plain = true ∧ d.depth ≤ n
  | 0, v, x, d, h, r => by
    unfold dat at h
    obtain ⟨h1, h2, h3⟩ := atomD_ok h r
    exact ⟨h1, h2, by omega⟩
  | n + 1, v, x, d, h, r => by
    unfold dat at h
    split at h
    · rename_i xs
      cases e : datsBy (dat A n) xs with
      | none => rw [e] at h; cases h
      | some ds =>
        rw [e] at h
        cases h
        obtain ⟨p, vs, rfl, hs, rs⟩ := vr_tup r
        obtain ⟨k1, k2, k3⟩ := datsBy_ok (dat_ok m n) e rs
        refine ⟨.tup hs k1, k2, ?_⟩
        simp only [PyData.depth]
        omega
    · split at h
      · rename_i xs e0
        cases e : datsBy (dat A n) xs with
        | none => rw [e] at h; cases h
        | some ds =>
          rw [e] at h
          cases h
          obtain ⟨a, vs, rfl, hs, rs⟩ := sq_rd m e0 r
          obtain ⟨k1, k2, k3⟩ := datsBy_ok (dat_ok m n) e rs
          refine ⟨.lst hs k1, k2, ?_⟩
          simp only [PyData.depth]
          omega
      · obtain ⟨h1, h2, h3⟩ := atomD_ok h r
        exact ⟨h1, h2, by omega⟩
end

/-! ### operations -/
def OpS (R : Rc) (X : Cx) (f : Value → Value → Sem Value) (g : AV → AV → AH → Res AV) : Prop := ∃ r, OpR X f r ∧ SimO R r g
def opAdd (a b : AV) (A : AH) : Res AV := match a, b with
  | .int i, .int j => .ok (.int (i + j)) A
  | .str x, .str y => if x.length + y.length ≤ sizeLine then .ok (.str (x ++ y)) A else .bad
  | .tup xs, .tup ys => if xs.length + ys.length ≤ sizeLine then .ok (.tup (xs ++ ys)) A else .bad
  | .ref m, .ref n => match A.lst? m, A.lst? n with
    | some xs, some ys => if xs.length + ys.length ≤ sizeLine then .ok (.ref A.length) (A ++ [.lst (xs ++ ys)]) else .bad
    | _, _ => .bad
  | _, _ => .bad
def opSub (a b : AV) (A : AH) : Res AV := match a, b with
  | .int i, .int j => .ok (.int (i - j)) A
  | _, _ => .bad
def opFdiv (a b : AV) (A : AH) : Res AV := match a, b with
  | .int i, .int j => if 0 < j ∧ j < 1073741824 then .ok (.int (i / j)) A else .bad
  | _, _ => .bad
def opMod (a b : AV) (A : AH) : Res AV := match a, b with
  | .int i, .int j => if 0 < j then .ok (.int (i % j)) A else .bad
  | _, _ => .bad
def small64 (i : Int) : Bool := decide (-(2 ^ 64) < i ∧ i < 2 ^ 64)
def repV (xs : List AV) (k : Nat) : List AV := (List.replicate k xs).flatten
def opMul (a b : AV) (A : AH) : Res AV := match a, b with
  | .int i, .int j => if small64 i || small64 j then .ok (.int (i * j)) A else .bad
  | _, _ => .bad
def cmpI (p : Int → Int → Bool) (a b : AV) (A : AH) : Res AV := match a, b with
  | .int i, .int j => .ok (.bl (p i j)) A
  | _, _ => .bad
def depthD : Nat := 12
def cEq (a b : AV) (A : AH) : Res AV := match dat A depthD a, dat A depthD b with
  | some d, some e => .ok (.bl (PyData.eqv d e)) A
  | _, _ => .bad
def cNe (a b : AV) (A : AH) : Res AV := match dat A depthD a, dat A depthD b with
  | some d, some e => .ok (.bl (!PyData.eqv d e)) A
  | _, _ => .bad
def isNonB : AV → Bool
  | .non => true
  | _ => false
def cIs (a b : AV) (A : AH) : Res AV := match b with
  | .non => .ok (.bl (isNonB a)) A
  | _ => .bad
def cIsNot (a b : AV) (A : AH) : Res AV := match b with
  | .non => .ok (.bl (!isNonB a)) A
  | _ => .bad
def inD (d e : PyData) : Option Bool := match e with
  | .list xs => some (xs.any fun y => PyData.eqv y d)
  | .tuple xs => some (xs.any fun y => PyData.eqv y d)
  | _ => none
def keyOf : AV → Option Key
  | .int i => some (.inl i)
  | .str x => some (.inr x)
  | _ => none
def valA (kvs : List (Key × AV)) (k : Key) : Option AV := (kvs.find? fun kv => decide (kv.1 = k)).map (·.2)
def putA (kvs : List (Key × AV)) (k : Key) (v : AV) : List (Key × AV) :=
  if kvs.any (fun kv => decide (kv.1 = k)) then kvs.map (fun kv => if kv.1 = k then (kv.1, v) else kv) else kvs ++ [(k, v)]
def hasIn (a b : AV) (A : AH) : Option Bool := match a, b with
  | .str x, .str y => some (!(Builtin.Str.occurrences y x 0 y.length 1).isEmpty)
  | a, b => match dat A depthD a, dat A depthD b with
    | some d, some e => inD d e
    | _, _ => match b with
      | .ref n => (A.dct? n).bind fun kvs => (keyOf a).map fun k => (valA kvs k).isSome
      | _ => none
def cIn (a b : AV) (A : AH) : Res AV := match hasIn a b A with | some k => .ok (.bl k) A | none => .bad
def cNotIn (a b : AV) (A : AH) : Res AV := match hasIn a b A with | some k => .ok (.bl (!k)) A | none => .bad

section
variable {R : Rc} {X : Cx}
theorem simO_rI0 {g : Int → Int → V} {h : Int → Int → AV} (hg : ∀ ι H i j, VR R ι H (h i j) (g i j)) :
    SimO R (rI0 g) (fun a b A => match a, b with | .int i, .int j => .ok (h i j) A | _, _ => .bad) := fun a b x y H ι A Q E M r1 r2 q => by
  cases a with
  | int i =>
    cases b with
    | int j => exact ⟨i, j, vr_int r1, vr_int r2, q.here M (hg _ _ _ _)⟩
    | _ => exact False.elim q
  | _ => exact False.elim q
theorem op_sub_s : OpS R X (binaryOp .Sub) opSub := ⟨_, op_sub, simO_rI0 fun _ _ _ _ => mk_int⟩
theorem op_fdiv_s : OpS R X (binaryOp .FloorDiv) opFdiv := ⟨_, op_fdiv, fun a b x y H ι A Q E M r1 r2 q => by
  cases a with
  | int i =>
    cases b with
    | int j =>
      unfold opFdiv at q
      by_cases h : 0 < j ∧ j < 1073741824
      · simp only [if_pos h] at q
        exact ⟨i, j, vr_int r1, vr_int r2, h, q.here M mk_int⟩
      · simp only [if_neg h] at q
        exact False.elim q
    | _ => exact False.elim q
  | _ => exact False.elim q⟩
theorem op_mod_s : OpS R X (binaryOp .Mod) opMod := ⟨_, op_mod, fun a b x y H ι A Q E M r1 r2 q => by
  cases a with
  | int i =>
    cases b with
    | int j =>
      unfold opMod at q
      by_cases h : 0 < j
      · simp only [if_pos h] at q
        exact ⟨i, j, vr_int r1, vr_int r2, h, q.here M mk_int⟩
      · simp only [if_neg h] at q
        exact False.elim q
    | _ => exact False.elim q
  | _ => exact False.elim q⟩
theorem op_mul_s : OpS R X (binaryOp .Mult) opMul := ⟨_, op_mul, fun a b x y H ι A Q E M r1 r2 q => by
  cases a with
  | int i =>
    cases b with
    | int j =>
      unfold opMul at q
      by_cases h : (small64 i || small64 j) = true
      · simp only [if_pos h] at q
        refine ⟨i, j, vr_int r1, vr_int r2, ?_, q.here M mk_int⟩
        rw [Bool.or_eq_true] at h
        exact h.elim (fun z => .inl (of_decide_eq_true z)) (fun z => .inr (of_decide_eq_true z))
      · simp only [if_neg h] at q
        exact False.elim q
    | _ => exact False.elim q
  | _ => exact False.elim q⟩
theorem op_add_s (hK : X.K = R.K) : OpS R X (binaryOp .Add) opAdd := by
  refine ⟨_, (op_add.or (op_add_str.or ((op_catA (X := X)).or op_cat))), fun a b x y H ι A Q E M r1 r2 q => ?_⟩
  cases a with
  | int i =>
    cases b with
    | int j => exact .inl ⟨i, j, vr_int r1, vr_int r2, q.here M mk_int⟩
    | _ => exact False.elim q
  | str i =>
    cases b with
    | str j =>
      unfold opAdd at q
      by_cases h : i.length + j.length ≤ sizeLine
      · simp only [if_pos h] at q
        exact .inr (.inl ⟨i, j, vr_str r1, vr_str r2, h, q.here M mk_str⟩)
      · simp only [if_neg h] at q
        exact False.elim q
    | _ => exact False.elim q
  | tup xs =>
    cases b with
    | tup ys =>
      unfold opAdd at q
      by_cases h : xs.length + ys.length ≤ sizeLine
      · simp only [if_pos h] at q
        obtain ⟨p, vs, rfl, h1, v1⟩ := vr_tup r1
        obtain ⟨p', vs', rfl, h2, v2⟩ := vr_tup r2
        refine .inr (.inr (.inl ⟨p, p', vs, vs', rfl, rfl, by rw [hK]; exact h1, by rw [hK]; exact h2, by rw [← v1.length, ← v2.length]; exact h, fun e => ?_, fun _ e => ?_, fun _ _ => ?_⟩))
        · have e' : xs = [] := List.length_eq_zero_iff.mp (by rw [v1.length, e]; rfl)
          subst e'
          exact q.here M r2
        · have e' : ys = [] := List.length_eq_zero_iff.mp (by rw [v2.length, e]; rfl)
          subst e'
          rw [List.append_nil] at q
          exact q.here M r1
        · exact q.tupNew M (v1.append v2)
      · simp only [if_neg h] at q
        exact False.elim q
    | _ => exact False.elim q
  | ref m =>
    cases b with
    | ref n =>
      unfold opAdd at q
      simp only at q
      split at q
      · rename_i xs ys e1 e2
        by_cases h : xs.length + ys.length ≤ sizeLine
        · simp only [if_pos h] at q
          obtain ⟨p, ha, rfl⟩ := vr_ref r1
          obtain ⟨p', hb, rfl⟩ := vr_ref r2
          obtain ⟨vs, h1, v1⟩ := lst_rd M e1 ha
          obtain ⟨vs', h2, v2⟩ := lst_rd M e2 hb
          exact .inr (.inr (.inr ⟨p, p', vs, vs', rfl, rfl, h1, h2, by rw [← v1.length, ← v2.length]; exact h, q.lstNew M (v1.append v2)⟩))
        · simp only [if_neg h] at q
          exact False.elim q
      · exact False.elim q
    | _ => exact False.elim q
  | _ => exact False.elim q
theorem op_lt_s : OpS R X (compareOp .Lt) (cmpI fun i j => decide (i < j)) := ⟨_, op_lt, simO_rI0 fun _ _ _ _ => mk_bl⟩
theorem op_le_s : OpS R X (compareOp .LtE) (cmpI fun i j => decide (i ≤ j)) := ⟨_, op_le, simO_rI0 fun _ _ _ _ => mk_bl⟩
theorem op_gt_s : OpS R X (compareOp .Gt) (cmpI fun i j => decide (j < i)) := ⟨_, op_gt, simO_rI0 fun _ _ _ _ => mk_bl⟩
theorem op_ge_s : OpS R X (compareOp .GtE) (cmpI fun i j => decide (j ≤ i)) := ⟨_, op_ge, simO_rI0 fun _ _ _ _ => mk_bl⟩
def rEqP (K : PySem.W.Frag) : R2 := fun x y H Q => ∃ d e, Dp K H x d ∧ Dp K H y e ∧ (d.plain = true ∧ d.depth ≤ 64) ∧ e.plain = true ∧ Q (.bl (PyData.eqv d e)) H
def rNeP (K : PySem.W.Frag) : R2 := fun x y H Q => ∃ d e, Dp K H x d ∧ Dp K H y e ∧ (d.plain = true ∧ d.depth ≤ 64) ∧ e.plain = true ∧ Q (.bl (!PyData.eqv d e)) H
theorem op_eqP (hu : X.A.units + 64 < cLine) : OpR X (compareOp .Eq) (rEqP X.K) := by
  intro pins s σ H x y v u Q I rx ry h
  obtain ⟨d, e, hd, he, ⟨sd, dd⟩, se, q⟩ := h
  obtain ⟨as, r1⟩ := Dp.reads I d x v hd rx
  obtain ⟨bs, r2⟩ := Dp.reads I e y u he ry
  exact PySem.SeqAt.eq_plain r1 r2 sd se (by omega) ⟨.bl _, H, I, rfl, q⟩
theorem op_neP (hu : X.A.units + 64 < cLine) : OpR X (compareOp .NotEq) (rNeP X.K) := by
  intro pins s σ H x y v u Q I rx ry h
  obtain ⟨d, e, hd, he, ⟨sd, dd⟩, se, q⟩ := h
  obtain ⟨as, r1⟩ := Dp.reads I d x v hd rx
  obtain ⟨bs, r2⟩ := Dp.reads I e y u he ry
  exact PySem.SeqAt.ne_plain r1 r2 sd se (by omega) ⟨.bl _, H, I, rfl, q⟩
theorem op_eq_s (hK : X.K = R.K) (hu : X.A.units + 64 < cLine) : OpS R X (compareOp .Eq) cEq := ⟨_, op_eqP hu, fun a b x y H ι A Q E M r1 r2 q => by
  unfold cEq at q
  split at q
  · rename_i d e h1 h2
    obtain ⟨k1, k2, k3⟩ := dat_ok M _ _ _ _ h1 r1
    obtain ⟨l1, l2, l3⟩ := dat_ok M _ _ _ _ h2 r2
    exact ⟨d, e, by rw [hK]; exact k1, by rw [hK]; exact l1, ⟨k2, Nat.le_trans k3 (by decide)⟩, l2, q.here M mk_bl⟩
  · exact False.elim q⟩
theorem op_ne_s (hK : X.K = R.K) (hu : X.A.units + 64 < cLine) : OpS R X (compareOp .NotEq) cNe := ⟨_, op_neP hu, fun a b x y H ι A Q E M r1 r2 q => by
  unfold cNe at q
  split at q
  · rename_i d e h1 h2
    obtain ⟨k1, k2, k3⟩ := dat_ok M _ _ _ _ h1 r1
    obtain ⟨l1, l2, l3⟩ := dat_ok M _ _ _ _ h2 r2
    exact ⟨d, e, by rw [hK]; exact k1, by rw [hK]; exact l1, ⟨k2, Nat.le_trans k3 (by decide)⟩, l2, q.here M mk_bl⟩
  · exact False.elim q⟩
theorem isNon_iff {ι : List Addr} {H : Hp} {a : AV} {x : V} (r : VR R ι H a x) : decide (x = .non) = isNonB a := by
  cases a with
  | non => rw [vr_non r]; rfl
  | bl b => rw [vr_bl r]; rfl
  | int b => rw [vr_int r]; rfl
  | str b => rw [vr_str r]; rfl
  | ty n => unfold VR at r; rw [r]; rfl
  | cls c => unfold VR at r; obtain ⟨_, _, rfl⟩ := r; rfl
  | ref n => obtain ⟨_, _, rfl⟩ := vr_ref r; rfl
  | tup xs => obtain ⟨_, _, rfl, _⟩ := vr_tup r; rfl
  | fl xs => obtain ⟨_, _, rfl, _⟩ := vr_fl r; rfl
  | gd n kvs => unfold VR at r; obtain ⟨_, _, _, rfl⟩ := r; rfl
theorem op_is_s : OpS R X (compareOp .Is) cIs := ⟨_, op_isN, fun a b x y H ι A Q E M r1 r2 q => by
  cases b with
  | non => exact ⟨vr_non r2, by rw [isNon_iff r1]; exact q.here M mk_bl⟩
  | _ => exact False.elim q⟩
theorem op_isNot_s : OpS R X (compareOp .IsNot) cIsNot := ⟨_, op_notN, fun a b x y H ι A Q E M r1 r2 q => by
  cases b with
  | non => exact ⟨vr_non r2, by rw [isNon_iff r1]; exact q.here M mk_bl⟩
  | _ => exact False.elim q⟩
/-! dict pairs -/
theorem KR.val {ι : List Addr} {H : Hp} (k : Key) : ∀ {as : List (Key × AV)} {vs : List (Key × V)}, KR R ι H as vs → (valA as k = none ∧ valV vs k = none) ∨ ∃ a x, valA as k = some a ∧ valV vs k = some x ∧ VR R ι H a x
  | [], _, h => by unfold KR at h; subst h; exact .inl ⟨rfl, rfl⟩
  | (f, a) :: as, _, h => by
    unfold KR at h
    obtain ⟨v, r, rfl, q, t⟩ := h
    by_cases e : f = k
    · refine .inr ⟨a, v, ?_, valV_pos e, q⟩
      simp [valA, List.find?_cons, e]
    · have e1 : valA ((f, a) :: as) k = valA as k := by simp [valA, List.find?_cons, e]
      rw [e1, valV_neg (p := (f, v)) e]
      exact KR.val k t
theorem KR.any {ι : List Addr} {H : Hp} (k : Key) : ∀ {as : List (Key × AV)} {vs : List (Key × V)}, KR R ι H as vs → as.any (fun kv => decide (kv.1 = k)) = vs.any (fun kv => decide (kv.1 = k))
  | [], _, h => by unfold KR at h; subst h; rfl
  | (f, a) :: as, _, h => by
    unfold KR at h
    obtain ⟨v, r, rfl, q, t⟩ := h
    simp only [List.any_cons, KR.any k t]
theorem KR.map {ι : List Addr} {H : Hp} (k : Key) {b : AV} {y : V} (hb : VR R ι H b y) : ∀ {as : List (Key × AV)} {vs : List (Key × V)}, KR R ι H as vs →
    KR R ι H (as.map fun kv => if kv.1 = k then (kv.1, b) else kv) (vs.map fun kv => if kv.1 = k then (kv.1, y) else kv)
  | [], _, h => by unfold KR at h; subst h; simp; unfold KR; rfl
  | (f, a) :: as, _, h => by
    unfold KR at h
    obtain ⟨v, r, rfl, q, t⟩ := h
    simp only [List.map_cons]
    by_cases e : f = k
    · simp only [if_pos e]
      unfold KR
      exact ⟨y, _, rfl, hb, KR.map k hb t⟩
    · simp only [if_neg e]
      unfold KR
      exact ⟨v, _, rfl, q, KR.map k hb t⟩
theorem KR.append {ι : List Addr} {H : Hp} {k : Key} {b : AV} {y : V} (hb : VR R ι H b y) : ∀ {as : List (Key × AV)} {vs : List (Key × V)}, KR R ι H as vs → KR R ι H (as ++ [(k, b)]) (vs ++ [(k, y)])
  | [], _, h => by unfold KR at h; subst h; show KR R ι H [(k, b)] [(k, y)]; unfold KR; exact ⟨y, [], rfl, hb, by unfold KR; rfl⟩
  | (f, a) :: as, _, h => by
    unfold KR at h
    obtain ⟨v, r, rfl, q, t⟩ := h
    show KR R ι H ((f, a) :: (as ++ [(k, b)])) ((f, v) :: (r ++ [(k, y)]))
    unfold KR
    exact ⟨v, _, rfl, q, KR.append hb t⟩
theorem KR.put {ι : List Addr} {H : Hp} {k : Key} {b : AV} {y : V} {as : List (Key × AV)} {vs : List (Key × V)} (hb : VR R ι H b y) (h : KR R ι H as vs) : KR R ι H (putA as k b) (putK vs k y) := by
  unfold putA putK
  rw [h.any k]
  by_cases e : (vs.any fun kv => decide (kv.1 = k)) = true
  · rw [if_pos e, if_pos e]
    exact h.map k hb
  · rw [if_neg e, if_neg e]
    exact KR.append hb h
theorem KR.length {ι : List Addr} {H : Hp} : ∀ {as : List (Key × AV)} {vs : List (Key × V)}, KR R ι H as vs → as.length = vs.length
  | [], _, h => by unfold KR at h; subst h; rfl
  | (f, a) :: as, _, h => by
    unfold KR at h
    obtain ⟨v, r, rfl, q, t⟩ := h
    rw [List.length_cons, List.length_cons, KR.length t]
theorem keyOf_ok {ι : List Addr} {H : Hp} {a : AV} {k : Key} {x : V} (h : keyOf a = some k) (r : VR R ι H a x) : x = kV k := by
  cases a <;> simp only [keyOf] at h <;> cases h
  · rw [vr_int r]; rfl
  · rw [vr_str r]; rfl
/-! in -/
def rInP (K : PySem.W.Frag) (neg : Bool) : R2 := fun x y H Q => ∃ b, Q (.bl (if neg then !b else b)) H ∧
  ((∃ i j, x = .str i ∧ y = .str j ∧ b = (!(Builtin.Str.occurrences j i 0 j.length 1).isEmpty)) ∨
   (∃ d e, Dp K H x d ∧ Dp K H y e ∧ (d.plain = true ∧ d.depth ≤ 62) ∧ e.plain = true ∧ inD d e = some b) ∨
   (∃ a o, y = .ref a ∧ DGet H a x o ∧ b = o.isSome))
theorem op_inP (hu : X.A.units + 64 < cLine) : OpR X (compareOp .In) (rInP X.K false) := by
  intro pins s σ H x y v u Q I rx ry h
  obtain ⟨b, q, h⟩ := h
  rcases h with ⟨i, j, rfl, rfl, rfl⟩ | ⟨d, e, hd, he, ⟨sd, dd⟩, se, hb⟩ | ⟨a, o, rfl, g, rfl⟩
  · exact op_in_str pins s σ H _ _ v u Q I rx ry ⟨i, j, rfl, rfl, q⟩
  · obtain ⟨as, r1⟩ := Dp.reads I d x v hd rx
    obtain ⟨bs, r2⟩ := Dp.reads I e y u he ry
    cases e with
    | list xs =>
      simp only [inD] at hb
      cases hb
      exact PySem.SeqAt.in_list_data r2 r1 se sd (by omega) ⟨.bl _, H, I, rfl, q⟩
    | tuple xs =>
      simp only [inD] at hb
      cases hb
      exact PySem.SeqAt.in_tuple_data r2 r1 se sd (by omega) ⟨.bl _, H, I, rfl, q⟩
    | _ => simp only [inD] at hb; cases hb
  · cases ry
    exact d_in (by omega) I g rx fun s' I' => ⟨.bl _, H, I', rfl, q⟩
theorem op_notInP (hu : X.A.units + 64 < cLine) : OpR X (compareOp .NotIn) (rInP X.K true) := by
  intro pins s σ H x y v u Q I rx ry h
  obtain ⟨b, q, h⟩ := h
  rcases h with ⟨i, j, rfl, rfl, rfl⟩ | ⟨d, e, hd, he, ⟨sd, dd⟩, se, hb⟩ | ⟨a, o, rfl, g, rfl⟩
  · exact L2.op_notIn_str pins s σ H _ _ v u Q I rx ry ⟨i, j, rfl, rfl, q⟩
  · obtain ⟨as, r1⟩ := Dp.reads I d x v hd rx
    obtain ⟨bs, r2⟩ := Dp.reads I e y u he ry
    cases e with
    | list xs =>
      simp only [inD] at hb
      cases hb
      exact PySem.SeqAt.notIn_list_data r2 r1 se sd (by omega) ⟨.bl _, H, I, rfl, q⟩
    | tuple xs =>
      simp only [inD] at hb
      cases hb
      exact PySem.SeqAt.notIn_tuple_data r2 r1 se sd (by omega) ⟨.bl _, H, I, rfl, q⟩
    | _ => simp only [inD] at hb; cases hb
  · cases ry
    exact d_notIn (by omega) I g rx fun s' I' => ⟨.bl _, H, I', rfl, q⟩
theorem hasIn_ok {ι : List Addr} {H : Hp} {A : AH} {a b : AV} {x y : V} {k : Bool} (M : Emb R ι A H) (r1 : VR R ι H a x) (r2 : VR R ι H b y) (h : hasIn a b A = some k) :
    (∃ i j, x = .str i ∧ y = .str j ∧ k = (!(Builtin.Str.occurrences j i 0 j.length 1).isEmpty)) ∨
    (∃ d e, Dp R.K H x d ∧ Dp R.K H y e ∧ (d.plain = true ∧ d.depth ≤ 62) ∧ e.plain = true ∧ inD d e = some k) ∨
    (∃ a o, y = .ref a ∧ DGet H a x o ∧ k = o.isSome) := by
  unfold hasIn at h
  split at h
  · cases h
    exact .inl ⟨_, _, vr_str r1, vr_str r2, rfl⟩
  · split at h
    · rename_i d e h1 h2
      obtain ⟨k1, k2, k3⟩ := dat_ok M _ _ _ _ h1 r1
      obtain ⟨l1, l2, l3⟩ := dat_ok M _ _ _ _ h2 r2
      exact .inr (.inl ⟨d, e, k1, l1, ⟨k2, Nat.le_trans k3 (by decide)⟩, l2, h⟩)
    · split at h
      · rename_i n hn hn2
        cases e0 : A.dct? n with
        | none => rw [e0] at h; cases h
        | some kvs =>
          rw [e0] at h
          simp only [Option.bind_some] at h
          cases e1 : keyOf a with
          | none => rw [e1] at h; cases h
          | some key =>
            rw [e1] at h
            simp only [Option.map_some] at h
            cases h
            obtain ⟨p, hp, rfl⟩ := vr_ref r2
            obtain ⟨vs, h1, h2⟩ := dct_rd M e0 hp
            refine .inr (.inr ⟨p, valV vs key, rfl, ?_, ?_⟩)
            · rw [keyOf_ok e1 r1]
              exact DGet.k h1
            · rcases h2.val key with ⟨z1, z2⟩ | ⟨a', x', z1, z2, _⟩ <;> rw [z1, z2] <;> rfl
      · cases h
theorem op_in_s (hK : X.K = R.K) (hu : X.A.units + 64 < cLine) : OpS R X (compareOp .In) cIn := ⟨_, op_inP hu, fun a b x y H ι A Q E M r1 r2 q => by
  unfold cIn at q
  split at q
  · rename_i k h
    refine ⟨k, q.here M mk_bl, ?_⟩
    rw [hK]
    exact hasIn_ok M r1 r2 h
  · exact False.elim q⟩
theorem op_notIn_s (hK : X.K = R.K) (hu : X.A.units + 64 < cLine) : OpS R X (compareOp .NotIn) cNotIn := ⟨_, op_notInP hu, fun a b x y H ι A Q E M r1 r2 q => by
  unfold cNotIn at q
  split at q
  · rename_i k h
    refine ⟨k, q.here M mk_bl, ?_⟩
    rw [hK]
    exact hasIn_ok M r1 r2 h
  · exact False.elim q⟩
end
end Sh

set_option Elab.async false
set_option linter.all false
set_option maxRecDepth 100000
set_option maxHeartbeats 2000000
namespace Sh
open PySem L2 PyProof.Rows

/-! ### subscripts -/
/-- what the table of a written dict says -/
def GdOk (R : Rc) : Prop := ∀ n kvs p, R.gdT n = some kvs → R.gdA n = some p → ∀ z v, valA kvs (.inr z) = some v → ∃ y, KDct R.K R.w p z y ∧ ∀ ι H, VR R ι H v y
def atA (xs : List AV) (i : Int) (A : AH) : Res AV := match atI xs i with | some v => .ok v A | none => .bad
def opIx (a b : AV) (A : AH) : Res AV := match a, b with
  | .tup xs, .int i => atA xs i A
  | .str x, .int i => if x.length ≤ sizeLine then (match atI x.cps.toList i with | some c => .ok (.str ⟨#[c]⟩) A | none => .bad) else .bad
  | .gd _ kvs, .str z => match valA kvs (.inr z) with | some v => .ok v A | none => .bad
  | .fl xs, .int i => atA xs i A
  | .ref n, k => match A.lst? n, k with
    | some xs, .int i => atA xs i A
    | _, k => match A.dct? n, keyOf k with
      | some kvs, some key => (match valA kvs key with | some v => .ok v A | none => .bad)
      | _, _ => .bad
  | _, _ => .bad
theorem VRs.atI {R : Rc} {ι : List Addr} {H : Hp} {as : List AV} {xs : List V} {i : Int} {a : AV} (r : VRs R ι H as xs) (h : L2.atI as i = some a) : ∃ x, L2.atI xs i = some x ∧ VR R ι H a x := by
  unfold L2.atI at h ⊢
  rw [← r.length]
  cases e : ixN as.length i with
  | none => rw [e] at h; cases h
  | some j =>
    rw [e] at h
    simp only [Option.bind_some] at h ⊢
    exact r.get h
def rIxE (X : Cx) : R2 := fun x y H Q => rIx X.K x y H Q ∨ rIxD X.K X.w x y H Q ∨ ∃ a v, x = .ref a ∧ DGet H a y (some v) ∧ Q v H
section
variable {R : Rc} {X : Cx}
theorem ix_dict (hu : X.A.units + 64 < cLine) : IxR X (fun x y H Q => ∃ a v, x = .ref a ∧ DGet H a y (some v) ∧ Q v H) := by
  intro value slice pins s σ H x y v u Q I rx ry h hs
  obtain ⟨a, z, rfl, g, q⟩ := h
  obtain rfl : v = Value.ref a := rx
  exact tail_any (dict_typeIs I g) PySem.F.slot_dict_getitem.lookup (d_getItem (by omega) I g ry fun w' s' I' rw' => ⟨z, H, I', rw', q⟩) hs
theorem ix_all (hu : X.A.units + 64 < cLine) : IxR X (rIxE X) := ix_seq.or (ix_kdict.or (ix_dict hu))
theorem simIx (hK : X.K = R.K) (hw : X.w = R.w) (hg : GdOk R) : SimO R (rIxE X) opIx := fun a b x y H ι A Q E M r1 r2 q => by
  unfold opIx at q
  split at q
  · rename_i xs i
    unfold atA at q
    split at q
    · rename_i v e
      obtain ⟨p, vs, rfl, h1, v1⟩ := vr_tup r1
      obtain ⟨z, e1, r3⟩ := v1.atI e
      exact .inl (.inr (.inl ⟨p, vs, i, z, rfl, vr_int r2, by rw [hK]; exact h1, e1, q.here M r3⟩))
    · exact False.elim q
  · rename_i s i
    split at q
    · rename_i hl
      split at q
      · rename_i c e
        exact .inl (.inr (.inr ⟨s, i, c, vr_str r1, vr_int r2, hl, e, q.here M mk_str⟩))
      · exact False.elim q
    · exact False.elim q
  · rename_i n kvs z
    split at q
    · rename_i v e
      unfold VR at r1
      obtain ⟨p, h1, h2, rfl⟩ := r1
      obtain ⟨yv, k1, k2⟩ := hg n kvs p h2 h1 z v e
      exact .inr (.inl ⟨p, z, yv, rfl, vr_str r2, by rw [hK, hw]; exact k1, q.here M (k2 _ _)⟩)
    · exact False.elim q
  · rename_i xs i
    unfold atA at q
    split at q
    · rename_i v e
      obtain ⟨p, vs, rfl, h1, v1⟩ := vr_fl r1
      obtain ⟨z, e1, r3⟩ := v1.atI e
      exact .inl (.inl ⟨p, vs, i, z, rfl, vr_int r2, by rw [hK]; exact h1.sq, e1, q.here M r3⟩)
    · exact False.elim q
  · rename_i n
    obtain ⟨p, hp, rfl⟩ := vr_ref r1
    split at q
    · rename_i xs i e
      unfold atA at q
      split at q
      · rename_i v e2
        obtain ⟨vs, h1, v1⟩ := lst_rd M e hp
        obtain ⟨z, e1, r3⟩ := v1.atI e2
        exact .inl (.inl ⟨p, vs, i, z, rfl, vr_int r2, SqL.of h1, e1, q.here M r3⟩)
      · exact False.elim q
    · split at q
      · rename_i kvs key e1 e2
        split at q
        · rename_i v e3
          obtain ⟨vs, h1, h2⟩ := dct_rd M e1 hp
          rcases h2.val key with ⟨z1, z2⟩ | ⟨a', x', z1, z2, z3⟩
          · rw [z1] at e3; cases e3
          · rw [z1] at e3
            cases e3
            refine .inr (.inr ⟨p, x', rfl, ?_, q.here M z3⟩)
            rw [keyOf_ok e2 r2, ← z2]
            exact DGet.k h1
        · exact False.elim q
      · exact False.elim q
  · exact False.elim q
end
/-! ### slices -/
def cutA (xs : List AV) (lo hi : Option Int) : List AV := (xs.drop (HT.sIx xs.length 0 lo)).take (HT.sIx xs.length xs.length hi - HT.sIx xs.length 0 lo)
theorem VRs.cut {R : Rc} {ι : List Addr} {H : Hp} {as : List AV} {xs : List V} (lo hi : Option Int) (r : VRs R ι H as xs) : VRs R ι H (cutA as lo hi) (cutV xs lo hi) := by
  unfold cutA cutV
  rw [← r.length]
  exact (r.drop _).take _

def opSl (a : AV) (lo hi : Option Int) (A : AH) : Res AV := match a with
  | .tup xs => .ok (.tup (cutA xs lo hi)) A
  | .str x => if x.length ≤ sizeLine then .ok (.str (cutS x lo hi)) A else .bad
  | a => match sq? a A with
    | some xs => .ok (.ref A.length) (A ++ [.lst (cutA xs lo hi)])
    | none => .bad
abbrev OF := LSt → AH → Res (Option Int)
def oNone : OF := fun _ A => .ok none A
def oSome (f : EF) : OF := fun ℓ A => (f ℓ A).bind fun a A => match a with | .int i => .ok (some i) A | _ => .bad
def eSl (f : EF) (l h : OF) : EF := fun ℓ A => (f ℓ A).bind fun a A => (l ℓ A).bind fun lo A => (h ℓ A).bind fun hi A => opSl a lo hi A
def SO (R : Rc) (X : Cx) (W : WX) (e : Option Expr) (f : OF) : Prop := ∃ t, PO X e t ∧ Sim R eqR W t f
def SimSl (R : Rc) (r : V → Option Int → Option Int → Hp → VK → Prop) (g : AV → Option Int → Option Int → AH → Res AV) : Prop :=
  ∀ a x lo hi H ι A Q E, Emb R ι A H → VR R ι H a x → Then R (VR R) (g a lo hi A) ι H Q E → r x lo hi H Q
section
variable {R : Rc} {X : Cx} {W : WX}
theorem sim_oNone : Sim R eqR W tNoPart oNone := fun σ ℓ H ι A Q L M q => q.here M rfl
theorem sim_oSome {ta : TE} {fa : EF} (ha : Sim R (VR R) W ta fa) : Sim R eqR W (tPart ta) (oSome fa) := fun σ ℓ H ι A Q L M q =>
  ha σ ℓ H ι A _ L M (q.bind fun a1 A1 ι1 H1 x U1 M1 v1 q1 => by
    cases a1 with
    | int i => exact ⟨i, vr_int v1, q1.here M1 rfl⟩
    | _ => exact False.elim q1)
theorem sim_sl {r : V → Option Int → Option Int → Hp → VK → Prop} {ta : TE} {fa : EF} {tl th : TO} {fl fh : OF} (hr : SimSl R r opSl) (ha : Sim R (VR R) W ta fa) (hl : Sim R eqR W tl fl) (hh : Sim R eqR W th fh) :
    Sim R (VR R) W (tSl r ta tl th) (eSl fa fl fh) := fun σ ℓ H ι A Q L M q =>
  ha σ ℓ H ι A _ L M (q.bind fun a1 A1 ι1 H1 x U1 M1 v1 q1 => hl σ ℓ H1 ι1 A1 _ (L.up U1) M1 (q1.bind fun a2 A2 ι2 H2 lo U2 M2 v2 q2 => hh σ ℓ H2 ι2 A2 _ ((L.up U1).up U2) M2 (q2.bind fun a3 A3 ι3 H3 hi U3 M3 v3 q3 => by
    cases v2
    cases v3
    exact hr _ _ _ _ _ _ _ _ _ M3 ((v1.up U2).up U3) q3)))
theorem sl_all : SlR X (fun x lo hi H Q => rSlA X.K x lo hi H Q ∨ rSlL X.K x lo hi H Q ∨ rSlS x lo hi H Q) := sl_tupA.or (sl_list.or sl_str)
theorem simSl (hK : X.K = R.K) : SimSl R (fun x lo hi H Q => rSlA X.K x lo hi H Q ∨ rSlL X.K x lo hi H Q ∨ rSlS x lo hi H Q) opSl := fun a x lo hi H ι A Q E M r1 q => by
  unfold opSl at q
  split at q
  · rename_i xs
    obtain ⟨p, vs, rfl, h1, v1⟩ := vr_tup r1
    refine .inl ⟨p, vs, rfl, by rw [hK]; exact h1, fun e => ?_, fun _ => q.tupNew M (v1.cut lo hi)⟩
    refine q.here M (mk_tup h1 ?_)
    have e2 : cutA xs lo hi = xs := by
      unfold cutA
      rw [v1.length, e.1, e.2, List.drop_zero, Nat.sub_zero, List.take_of_length_le (by rw [v1.length]; exact Nat.le_refl _)]
    rw [e2]
    exact v1
  · rename_i s
    split at q
    · rename_i hl
      exact .inr (.inr ⟨s, vr_str r1, hl, q.here M mk_str⟩)
    · exact False.elim q
  · split at q
    · rename_i xs e
      obtain ⟨p, vs, rfl, h1, v1⟩ := sq_rd M e r1
      exact .inr (.inl ⟨p, vs, rfl, by rw [hK]; exact h1, q.lstNew M (v1.cut lo hi)⟩)
    · exact False.elim q
end

/-! ### built-in functions by name -/
def bLen (as : List AV) (A : AH) : Res AV := match as with
  | [.str x] => if x.length ≤ sizeLine then .ok (.int x.length) A else .bad
  | [.tup xs] => .ok (.int xs.length) A
  | [a] => match sq? a A with
    | some xs => .ok (.int xs.length) A
    | none => match a with
      | .ref n => match A.dct? n with | some kvs => .ok (.int kvs.length) A | none => .bad
      | _ => .bad
  | _ => .bad
def bInt (as : List AV) (A : AH) : Res AV := match as with
  | [.int i] => .ok (.int i) A
  | [.bl k] => .ok (.int (if k then 1 else 0)) A
  | _ => .bad
def bAbs (as : List AV) (A : AH) : Res AV := match as with
  | [.int i] => .ok (.int (if i < 0 then -i else i)) A
  | _ => .bad
def intsA : List AV → Option (List Int)
  | [] => some []
  | .int i :: as => (intsA as).map (i :: ·)
  | _ => none
def minI : List Int → Int
  | [] => 0
  | [i] => i
  | i :: is => let m := minI is; if m < i then m else i
def maxI : List Int → Int
  | [] => 0
  | [i] => i
  | i :: is => let m := maxI is; if i < m then m else i
def bMin (as : List AV) (A : AH) : Res AV := match as with
  | [.int i, .int j] => .ok (.int (if j < i then j else i)) A
  | [a] => match (sq? a A).bind intsA with
    | some (i :: is) => .ok (.int (minI (i :: is))) A
    | _ => .bad
  | _ => .bad
def bMax (as : List AV) (A : AH) : Res AV := match as with
  | [.int i, .int j] => .ok (.int (if j > i then j else i)) A
  | [a] => match (sq? a A).bind intsA with
    | some (i :: is) => .ok (.int (maxI (i :: is))) A
    | _ => .bad
  | _ => .bad
def bList (as : List AV) (A : AH) : Res AV := match as with
  | [.tup xs] => .ok (.ref A.length) (A ++ [.lst xs])
  | [a] => match sq? a A with
    | some xs => .ok (.ref A.length) (A ++ [.lst xs])
    | none => .bad
  | _ => .bad
def bTuple (as : List AV) (A : AH) : Res AV := match as with
  | [.tup xs] => .ok (.tup xs) A
  | [a] => match sq? a A with
    | some xs => .ok (.tup xs) A
    | none => .bad
  | _ => .bad
section
variable {R : Rc} {X : Cx}
theorem vrs1 {ι : List Addr} {H : Hp} {a : AV} {xs : List V} (h : VRs R ι H [a] xs) : ∃ x, xs = [x] ∧ VR R ι H a x := by
  unfold VRs at h
  obtain ⟨v, r, rfl, q, t⟩ := h
  unfold VRs at t
  subst t
  exact ⟨v, rfl, q⟩
theorem vrs2 {ι : List Addr} {H : Hp} {a b : AV} {xs : List V} (h : VRs R ι H [a, b] xs) : ∃ x y, xs = [x, y] ∧ VR R ι H a x ∧ VR R ι H b y := by
  unfold VRs at h
  obtain ⟨v, r, rfl, q, t⟩ := h
  obtain ⟨y, rfl, q2⟩ := vrs1 t
  exact ⟨v, y, rfl, q, q2⟩
theorem vrs0 {ι : List Addr} {H : Hp} {xs : List V} (h : VRs R ι H [] xs) : xs = [] := by unfold VRs at h; exact h
theorem call_lenD1 : CallR X (.builtin "len") (fun xs H Q => ∃ a kvs, xs = [.ref a] ∧ H a = some (.dK kvs) ∧ Q (.int kvs.length) H) := by
  intro pins s σ H xs us Q I r h
  obtain ⟨a, kvs, rfl, e, q⟩ := h
  obtain ⟨u, rfl, r1⟩ := vals1 r
  cases r1
  exact d_len I (.inl e) fun t s' I' => ⟨.int _, H, I', ⟨_, rfl⟩, q⟩
theorem bLen_s (hK : X.K = R.K) : ∃ r, CallR X (.builtin "len") r ∧ SimC R r bLen := ⟨_, call_len.or call_lenD1, fun as xs H ι A Q E M r q => by
  unfold bLen at q
  split at q
  · rename_i s
    obtain ⟨x, rfl, r1⟩ := vrs1 r
    split at q
    · rename_i hl
      rw [vr_str r1]
      exact .inl ⟨.str s, s.length, rfl, ⟨hl, rfl⟩, q.here M mk_int⟩
    · exact False.elim q
  · rename_i ys
    obtain ⟨x, rfl, r1⟩ := vrs1 r
    obtain ⟨p, vs, rfl, h1, v1⟩ := vr_tup r1
    exact .inl ⟨.ref p, vs.length, rfl, .inr ⟨vs, by rw [hK]; exact h1, rfl⟩, q.here M (by rw [v1.length]; exact mk_int)⟩
  · obtain ⟨x, rfl, r1⟩ := vrs1 r
    split at q
    · rename_i ys e
      obtain ⟨p, vs, rfl, h1, v1⟩ := sq_rd M e r1
      exact .inl ⟨.ref p, vs.length, rfl, .inl ⟨vs, by rw [hK]; exact h1, rfl⟩, q.here M (by rw [v1.length]; exact mk_int)⟩
    · split at q
      · obtain ⟨p, hp, rfl⟩ := vr_ref r1
        split at q
        · rename_i kvs e
          obtain ⟨vs, h1, v1⟩ := dct_rd M e hp
          exact .inr ⟨p, vs, rfl, h1, q.here M (by rw [v1.length]; exact mk_int)⟩
        · exact False.elim q
      · exact False.elim q
  · exact False.elim q⟩
theorem bInt_s : ∃ r, CallR X (.type "int") r ∧ SimC R r bInt := ⟨_, call_int1, fun as xs H ι A Q E M r q => by
  unfold bInt at q
  split at q
  · obtain ⟨x, rfl, r1⟩ := vrs1 r
    rw [vr_int r1]
    exact .inl ⟨_, rfl, q.here M mk_int⟩
  · obtain ⟨x, rfl, r1⟩ := vrs1 r
    rw [vr_bl r1]
    exact .inr ⟨_, rfl, q.here M mk_int⟩
  · exact False.elim q⟩
theorem bAbs_s : ∃ r, CallR X (.builtin "abs") r ∧ SimC R r bAbs := ⟨_, call_abs, fun as xs H ι A Q E M r q => by
  unfold bAbs at q
  split at q
  · obtain ⟨x, rfl, r1⟩ := vrs1 r
    rw [vr_int r1]
    exact ⟨_, rfl, q.here M mk_int⟩
  · exact False.elim q⟩
theorem intsA_ok {ι : List Addr} {H : Hp} : ∀ {as : List AV} {xs : List V} {is : List Int}, intsA as = some is → VRs R ι H as xs → xs = is.map V.int
  | [], _, _, h, r => by unfold intsA at h; cases h; exact vrs0 r
  | a :: as, _, _, h, r => by
    unfold VRs at r
    obtain ⟨v, t, rfl, r1, r2⟩ := r
    cases a with
    | int i =>
      unfold intsA at h
      cases e : intsA as with
      | none => rw [e] at h; cases h
      | some js =>
        rw [e] at h
        cases h
        rw [vr_int r1, intsA_ok e r2]
        rfl
    | _ => unfold intsA at h; cases h
theorem minI_spec : ∀ {is : List Int}, is ≠ [] → minI is ∈ is ∧ ∀ y ∈ is, minI is ≤ y
  | [], h => absurd rfl h
  | [i], _ => ⟨by simp [minI], fun y hy => by simp [minI] at hy ⊢; omega⟩
  | i :: j :: is, _ => by
    obtain ⟨h1, h2⟩ := minI_spec (is := j :: is) (by simp)
    have e : minI (i :: j :: is) = if minI (j :: is) < i then minI (j :: is) else i := rfl
    rw [e]
    by_cases h : minI (j :: is) < i
    · rw [if_pos h]
      exact ⟨List.mem_cons_of_mem _ h1, fun y hy => by
        rcases List.mem_cons.mp hy with rfl | hy
        · omega
        · exact h2 y hy⟩
    · rw [if_neg h]
      exact ⟨List.mem_cons_self, fun y hy => by
        rcases List.mem_cons.mp hy with rfl | hy
        · omega
        · have := h2 y hy; omega⟩
theorem maxI_spec : ∀ {is : List Int}, is ≠ [] → maxI is ∈ is ∧ ∀ y ∈ is, y ≤ maxI is
  | [], h => absurd rfl h
  | [i], _ => ⟨by simp [maxI], fun y hy => by simp [maxI] at hy ⊢; omega⟩
  | i :: j :: is, _ => by
    obtain ⟨h1, h2⟩ := maxI_spec (is := j :: is) (by simp)
    have e : maxI (i :: j :: is) = if i < maxI (j :: is) then maxI (j :: is) else i := rfl
    rw [e]
    by_cases h : i < maxI (j :: is)
    · rw [if_pos h]
      exact ⟨List.mem_cons_of_mem _ h1, fun y hy => by
        rcases List.mem_cons.mp hy with rfl | hy
        · omega
        · exact h2 y hy⟩
    · rw [if_neg h]
      exact ⟨List.mem_cons_self, fun y hy => by
        rcases List.mem_cons.mp hy with rfl | hy
        · omega
        · have := h2 y hy; omega⟩
theorem bMin_s (hK : X.K = R.K) (hc : X.calm = true) : ∃ r, CallR X (.builtin "min") r ∧ SimC R r bMin := ⟨_, (call_min2 hc).or (cr_min hc), fun as xs H ι A Q E M r q => by
  unfold bMin at q
  split at q
  · obtain ⟨x, y, rfl, r1, r2⟩ := vrs2 r
    rw [vr_int r1, vr_int r2]
    exact .inl ⟨_, _, rfl, q.here M mk_int⟩
  · rename_i as0 a
    obtain ⟨x, rfl, r1⟩ := vrs1 r
    split at q
    · rename_i i is e
      cases e0 : sq? a A with
      | none => rw [e0] at e; cases e
      | some ys =>
        rw [e0] at e
        simp only [Option.bind_some] at e
        obtain ⟨p, vs, rfl, h1, v1⟩ := sq_rd M e0 r1
        rw [intsA_ok e v1] at h1
        refine .inr ⟨p, i :: is, rfl, by rw [hK]; exact h1, by simp, fun m hm hle => ?_⟩
        obtain ⟨k1, k2⟩ := minI_spec (is := i :: is) (by simp)
        have e3 : m = minI (i :: is) := Int.le_antisymm (hle _ k1) (k2 _ hm)
        rw [e3]
        exact q.here M mk_int
    · exact False.elim q
  · exact False.elim q⟩
theorem bMax_s (hK : X.K = R.K) (hc : X.calm = true) : ∃ r, CallR X (.builtin "max") r ∧ SimC R r bMax := ⟨_, (call_max2 hc).or (cr_max hc), fun as xs H ι A Q E M r q => by
  unfold bMax at q
  split at q
  · obtain ⟨x, y, rfl, r1, r2⟩ := vrs2 r
    rw [vr_int r1, vr_int r2]
    exact .inl ⟨_, _, rfl, q.here M mk_int⟩
  · rename_i as0 a
    obtain ⟨x, rfl, r1⟩ := vrs1 r
    split at q
    · rename_i i is e
      cases e0 : sq? a A with
      | none => rw [e0] at e; cases e
      | some ys =>
        rw [e0] at e
        simp only [Option.bind_some] at e
        obtain ⟨p, vs, rfl, h1, v1⟩ := sq_rd M e0 r1
        rw [intsA_ok e v1] at h1
        refine .inr ⟨p, i :: is, rfl, by rw [hK]; exact h1, by simp, fun m hm hle => ?_⟩
        obtain ⟨k1, k2⟩ := maxI_spec (is := i :: is) (by simp)
        have e3 : m = maxI (i :: is) := Int.le_antisymm (k2 _ hm) (hle _ k1)
        rw [e3]
        exact q.here M mk_int
    · exact False.elim q
  · exact False.elim q⟩
theorem bList_s (hK : X.K = R.K) : ∃ r, CallR X (.type "list") r ∧ SimC R r bList := ⟨_, call_list_of, fun as xs H ι A Q E M r q => by
  unfold bList at q
  split at q
  · obtain ⟨x, rfl, r1⟩ := vrs1 r
    obtain ⟨p, vs, rfl, h1, v1⟩ := vr_tup r1
    exact ⟨p, vs, rfl, .inr (by rw [hK]; exact h1), q.lstNew M v1⟩
  · obtain ⟨x, rfl, r1⟩ := vrs1 r
    split at q
    · rename_i ys e
      obtain ⟨p, vs, rfl, h1, v1⟩ := sq_rd M e r1
      exact ⟨p, vs, rfl, .inl (by rw [hK]; exact h1), q.lstNew M v1⟩
    · exact False.elim q
  · exact False.elim q⟩
theorem bTuple_s (hK : X.K = R.K) : ∃ r, CallR X (.type "tuple") r ∧ SimC R r bTuple := ⟨_, call_tuple_of, fun as xs H ι A Q E M r q => by
  unfold bTuple at q
  split at q
  · obtain ⟨x, rfl, r1⟩ := vrs1 r
    obtain ⟨p, vs, rfl, h1, v1⟩ := vr_tup r1
    exact ⟨p, vs, rfl, .inr ⟨by rw [hK]; exact h1, q.here M (mk_tup h1 v1)⟩⟩
  · obtain ⟨x, rfl, r1⟩ := vrs1 r
    split at q
    · rename_i ys e
      obtain ⟨p, vs, rfl, h1, v1⟩ := sq_rd M e r1
      exact ⟨p, vs, rfl, .inl ⟨by rw [hK]; exact h1, q.tupNew M v1⟩⟩
    · exact False.elim q
  · exact False.elim q⟩
end
end Sh

set_option Elab.async false
set_option linter.all false
set_option maxRecDepth 100000
set_option maxHeartbeats 2000000
namespace Sh
open PySem L2 PyProof.Rows

/-! ### walks -/
structure Walk where
  n : Nat
  get : Nat → AH → Option AV
  stop : AH → Bool
abbrev IF := LSt → AH → Res Walk
def wPure (xs : List AV) : Walk := ⟨xs.length, fun i _ => xs[i]?, fun _ => true⟩
def wLst (n : Nat) (xs : List AV) : Walk := ⟨xs.length, fun i A => (A.lst? n).bind fun ys => ys[i]?, fun A => match A.lst? n with | some ys => ys.length == xs.length | none => false⟩
def rangeA (lo : Int) (n : Nat) : List AV := (List.range n).map fun (i : Nat) => AV.int (lo + (i : Int))
def signsA (x : Str) : List AV := x.cps.toList.map fun c => AV.str ⟨#[c]⟩
/-- the walk is that of the iterator J, from H on -/
structure WR (R : Rc) (ι : List Addr) (H : Hp) (w : Walk) (J : It) : Prop where
  go : ∀ (i : Nat) (ι' : List Addr) (H' : Hp) (A : AH) (x : AV), Up R ι ι' H H' → Emb R ι' A H' → i < w.n → w.get i A = some x →
    J.go i H' ∧ ∀ y H2, J.yld i H' y H2 → Up R ι' ι' H' H2 ∧ Emb R ι' A H2 ∧ VR R ι' H2 x y
  stop : ∀ (ι' : List Addr) (H' : Hp) (A : AH), Up R ι ι' H H' → Emb R ι' A H' → w.stop A = true → J.stop w.n H'
def SI (R : Rc) (X : Cx) (W : WX) (tg e : Expr) (f : IF) : Prop := ∃ t, PI X tg e t ∧ Sim R (WR R) W t f
/-- values that are walked -/
def asWalk (a : AV) (A : AH) : Res Walk := match a with
  | .tup xs => .ok (wPure xs) A
  | .fl xs => .ok (wPure xs) A
  | .ref n => match A.lst? n with
    | some xs => .ok (wLst n xs) A
    | none => .bad
  | .str x => .ok (wPure (signsA x)) A
  | _ => .bad
def iVal (f : EF) : IF := fun ℓ A => (f ℓ A).bind asWalk
/-- a number of a word, told so that an open term is not unrolled -/
def w62 (i : Int) : Bool := Nat.blt i.toNat 4611686018427387904 && Nat.ble (-i).toNat 4611686018427387904
theorem w62_ok {i : Int} (h : w62 i = true) : -(2 ^ 62) ≤ i ∧ i < 2 ^ 62 := by
  unfold w62 at h
  rw [Bool.and_eq_true] at h
  have h1 : i.toNat < 4611686018427387904 := Nat.le_of_ble_eq_true h.1
  have h2 : (-i).toNat ≤ 4611686018427387904 := Nat.le_of_ble_eq_true h.2
  omega
theorem w62_of {i : Int} (h : -(2 ^ 62) ≤ i ∧ i < 2 ^ 62) : w62 i = true := by
  unfold w62
  rw [Bool.and_eq_true]
  exact ⟨Nat.ble_eq_true_of_le (by show i.toNat < _; omega), Nat.ble_eq_true_of_le (by omega)⟩
def iRange (f : AF) : IF := fun ℓ A => (f ℓ A).bind fun as A => match as with
  | [.int j] => if w62 j then .ok (wPure (rangeA 0 j.toNat)) A else .bad
  | [.int i, .int j] => if w62 i && w62 j then .ok (wPure (rangeA i (j - i).toNat)) A else .bad
  | _ => .bad
section
variable {R : Rc} {X : Cx} {W : WX} {ta : TE} {fa : EF} {tg e : Expr}
theorem PI.or {t u : TI} (h1 : PI X tg e t) (h2 : PI X tg e u) : PI X tg e (fun σ H Q => t σ H Q ∨ u σ H Q) :=
  ⟨fun pins s σ H Q I q => q.elim (fun q => h1.run pins s σ H Q I q) fun q => h2.run pins s σ H Q I q⟩
theorem wr_tup {ι : List Addr} {H : Hp} {p : Addr} {xs : List AV} {vs : List V} (hs : SqT R.K H p vs) (r : VRs R ι H xs vs) : WR R ι H (wPure xs) (Itt R.K p) :=
  ⟨fun i ι' H' A x U M hi e => by
    obtain ⟨v, h1, h2⟩ := r.get e
    exact ⟨⟨vs, v, U.tup _ _ hs, h1⟩, fun y H2 ⟨e2, hy⟩ => by
      subst e2
      have h3 := hy vs (U.tup _ _ hs)
      rw [h1] at h3
      cases h3
      exact ⟨Up.refl _ _ _, M, h2.up U⟩⟩,
   fun ι' H' A U M _ => ⟨vs, U.tup _ _ hs, by rw [← r.length]; exact Nat.le_refl _⟩⟩
theorem wr_lst {ι : List Addr} {H : Hp} {p : Addr} {n : Nat} {xs : List AV} (hp : ι[n]? = some p) : WR R ι H (wLst n xs) (Itl R.K p) :=
  ⟨fun i ι' H' A x U M hi e => by
    cases e0 : A.lst? n with
    | none => simp [wLst, e0] at e
    | some ys =>
      simp only [wLst, e0, Option.bind_some] at e
      obtain ⟨vs, h1, v1⟩ := lst_rd M e0 (U.at hp)
      obtain ⟨v, h2, h3⟩ := v1.get e
      exact ⟨⟨vs, v, SqL.of h1, h2⟩, fun y H2 ⟨e2, hy⟩ => by
        subst e2
        have h4 := hy vs (SqL.of h1)
        rw [h2] at h4
        cases h4
        exact ⟨Up.refl _ _ _, M, h3⟩⟩,
   fun ι' H' A U M hs => by
    cases e0 : A.lst? n with
    | none => simp [wLst, e0] at hs
    | some ys =>
      simp only [wLst, e0, beq_iff_eq] at hs
      obtain ⟨vs, h1, v1⟩ := lst_rd M e0 (U.at hp)
      exact ⟨vs, SqL.of h1, by rw [← v1.length, hs]; exact Nat.le_refl _⟩⟩
theorem wr_fl {ι : List Addr} {H : Hp} {p : Addr} {xs : List AV} {vs : List V} (hs : FzL R.K H p vs) (r : VRs R ι H xs vs) : WR R ι H (wPure xs) (Itl R.K p) :=
  ⟨fun i ι' H' A x U M hi e => by
    obtain ⟨v, h1, h2⟩ := r.get e
    exact ⟨⟨vs, v, (hs.up U).sq, h1⟩, fun y H2 ⟨e2, hy⟩ => by
      subst e2
      have h3 := hy vs (hs.up U).sq
      rw [h1] at h3
      cases h3
      exact ⟨Up.refl _ _ _, M, h2.up U⟩⟩,
   fun ι' H' A U M _ => ⟨vs, (hs.up U).sq, by rw [← r.length]; exact Nat.le_refl _⟩⟩
theorem rangeA_get {lo : Int} {n i : Nat} (h : i < n) : (rangeA lo n)[i]? = some (.int (lo + (i : Int))) := by
  unfold rangeA
  rw [List.getElem?_map, List.getElem?_range h]
  rfl
theorem rangeA_length {lo : Int} {n : Nat} : (rangeA lo n).length = n := by
  unfold rangeA
  rw [List.length_map, List.length_range]
theorem wr_rng {ι : List Addr} {H : Hp} {lo : Int} {n : Nat} : WR R ι H (wPure (rangeA lo n)) (Itr lo n) :=
  ⟨fun i ι' H' A x U M hi e => by
    have hn : i < n := by
      have : i < (rangeA lo n).length := hi
      rw [rangeA_length] at this
      exact this
    have e' : (rangeA lo n)[i]? = some x := e
    rw [rangeA_get hn] at e'
    cases e'
    exact ⟨hn, fun y H2 ⟨e2, hy⟩ => by subst e2; subst hy; exact ⟨Up.refl _ _ _, M, mk_int⟩⟩,
   fun ι' H' A U M _ => by show n ≤ (rangeA lo n).length; rw [rangeA_length]; exact Nat.le_refl _⟩
theorem wr_str {ι : List Addr} {H : Hp} {x : Str} : WR R ι H (wPure (signsA x)) (Its x) :=
  ⟨fun i ι' H' A v U M hi e => by
    have e' : (signsA x)[i]? = some v := e
    unfold signsA at e'
    rw [List.getElem?_map] at e'
    cases e1 : x.cps.toList[i]? with
    | none => rw [e1] at e'; cases e'
    | some c =>
      rw [e1] at e'
      cases e'
      have e2 : x.cps[i]? = some c := by rw [← Array.getElem?_toList]; exact e1
      have hi2 : i < x.cps.size := by
        have := (Array.getElem?_eq_some_iff.mp e2).1
        exact this
      refine ⟨hi2, fun y H2 ⟨e3, c', hy, hy2⟩ => ?_⟩
      subst e3
      rw [e2] at hy
      cases hy
      subst hy2
      exact ⟨Up.refl _ _ _, M, mk_str⟩,
   fun ι' H' A U M _ => by
    show x.cps.size ≤ (signsA x).length
    unfold signsA
    rw [List.length_map, Array.length_toList]
    exact Nat.le_refl _⟩
theorem sim_iVal (hK : X.K = R.K) (ha : Sim R (VR R) W ta fa) : Sim R (WR R) W (fun σ H Q => iTup X.K ta σ H Q ∨ iList X.K ta σ H Q ∨ iStr ta σ H Q) (iVal fa) := fun σ ℓ H ι A Q L M q => by
  unfold iVal at q
  cases e : fa ℓ A with
  | bad => rw [e] at q; exact False.elim q
  | exc c fs A1 =>
    rw [e] at q
    refine .inl (ha σ ℓ H ι A _ L M ?_)
    rw [e]
    exact q
  | ok a A1 =>
    rw [e] at q
    cases a with
    | tup xs =>
      refine .inl (ha σ ℓ H ι A _ L M ?_)
      rw [e]
      intro ι1 H1 x U1 M1 r1
      obtain ⟨p, vs, rfl, h1, v1⟩ := vr_tup r1
      exact ⟨p, rfl, ⟨vs, by rw [hK]; exact h1⟩, q ι1 H1 _ U1 M1 (by rw [hK]; exact wr_tup h1 v1)⟩
    | ref n =>
      refine .inr (.inl (ha σ ℓ H ι A _ L M ?_))
      rw [e]
      intro ι1 H1 x U1 M1 r1
      obtain ⟨p, hp, rfl⟩ := vr_ref r1
      simp only [Res.bind, asWalk] at q
      split at q
      · rename_i xs e2
        obtain ⟨vs, h1, v1⟩ := lst_rd M1 e2 hp
        exact ⟨p, rfl, ⟨vs, SqL.of h1⟩, q ι1 H1 _ U1 M1 (by rw [hK]; exact wr_lst hp)⟩
      · exact False.elim q
    | fl xs =>
      refine .inr (.inl (ha σ ℓ H ι A _ L M ?_))
      rw [e]
      intro ι1 H1 x U1 M1 r1
      obtain ⟨p, vs, rfl, h1, v1⟩ := vr_fl r1
      exact ⟨p, rfl, ⟨vs, by rw [hK]; exact h1.sq⟩, q ι1 H1 _ U1 M1 (by rw [hK]; exact wr_fl h1 v1)⟩
    | str s =>
      refine .inr (.inr (ha σ ℓ H ι A _ L M ?_))
      rw [e]
      intro ι1 H1 x U1 M1 r1
      exact ⟨s, vr_str r1, q ι1 H1 _ U1 M1 wr_str⟩
    | _ => exact False.elim q
theorem pi_val (he : PE X e ta) : PI X tg e (fun σ H Q => iTup X.K ta σ H Q ∨ iList X.K ta σ H Q ∨ iStr ta σ H Q) := PI.or (pi_tup he) (PI.or (pi_list he) (pi_str he))
theorem sim_iRange1 {t : TA} {f : AF} (h : Sim R (VRs R) W t f) (h1 : ∀ ℓ A as A', f ℓ A = .ok as A' → as.length = 1) : Sim R (WR R) W (iRng1 t) (iRange f) := fun σ ℓ H ι A Q L M q =>
  h σ ℓ H ι A _ L M (by
    unfold iRange at q
    cases e : f ℓ A with
    | bad => rw [e] at q; exact False.elim q
    | exc c fs A1 => rw [e] at q; exact q
    | ok as A1 =>
      rw [e] at q
      intro ι1 H1 xs U1 M1 r1
      have hl := h1 _ _ _ _ e
      simp only [Res.bind] at q
      split at q
      · rename_i j
        split at q
        · rename_i hj
          obtain ⟨x, rfl, r2⟩ := vrs1 r1
          rw [vr_int r2]
          have hj := w62_ok hj
          exact ⟨j, rfl, hj.1, hj.2, q ι1 H1 _ U1 M1 wr_rng⟩
        · exact False.elim q
      · simp at hl
      · exact False.elim q)
theorem sim_iRange2 {t : TA} {f : AF} (h : Sim R (VRs R) W t f) (h1 : ∀ ℓ A as A', f ℓ A = .ok as A' → as.length = 2) : Sim R (WR R) W (iRng2 t) (iRange f) := fun σ ℓ H ι A Q L M q =>
  h σ ℓ H ι A _ L M (by
    unfold iRange at q
    cases e : f ℓ A with
    | bad => rw [e] at q; exact False.elim q
    | exc c fs A1 => rw [e] at q; exact q
    | ok as A1 =>
      rw [e] at q
      intro ι1 H1 xs U1 M1 r1
      have hl := h1 _ _ _ _ e
      simp only [Res.bind] at q
      split at q
      · simp at hl
      · rename_i i j
        split at q
        · rename_i hj
          obtain ⟨x, y, rfl, r2, r3⟩ := vrs2 r1
          rw [vr_int r2, vr_int r3]
          rw [Bool.and_eq_true] at hj
          have hj1 := w62_ok hj.1
          have hj2 := w62_ok hj.2
          exact ⟨i, j, rfl, ⟨hj1.1, hj1.2, hj2.1, hj2.2⟩, q ι1 H1 _ U1 M1 wr_rng⟩
        · exact False.elim q
      · exact False.elim q)
end

/-! ### statements -/
abbrev GF1 := AV → LSt → AH → Option LSt
def gNm (i : Nat) : GF1 := fun v ℓ _ => some (ℓ.set i (some v))
def SimG (R : Rc) (g : TG) (f : GF1) : Prop := ∀ (v : AV) (x : V) (σ : L2.St) (ℓ ℓ' : LSt) (H : Hp) (ι : List Addr) (A : AH) (Q : L2.St → Hp → Prop), LR R ι H ℓ σ → Emb R ι A H → VR R ι H v x → f v ℓ A = some ℓ' → (∀ σ', LR R ι H ℓ' σ' → Q σ' H) → g x σ H Q
def SG (R : Rc) (X : Cx) (tg : Expr) (f : GF1) : Prop := ∃ g, PG X tg g ∧ SimG R g f
theorem simG_name {R : Rc} {i : Nat} : SimG R (gName i) (gNm i) := fun v x σ ℓ ℓ' H ι A Q L M r e q => by
  unfold gNm at e
  cases e
  exact q _ (L.set r)
/-- a tuple of names -/
def gTp (is : List Nat) : GF1 := fun v ℓ _ => match v with
  | .tup xs => if xs.length = is.length then some ((is.zip xs).foldl (fun ℓ p => ℓ.set p.1 (some p.2)) ℓ) else none
  | _ => none

def sNext : SF := fun ℓ A => .nx ℓ A
def sSeq (f g : SF) : SF := fun ℓ A => match f ℓ A with
  | .nx ℓ' A' => g ℓ' A'
  | r => r
def sExpr (f : EF) : SF := fun ℓ A => (f ℓ A).toS ℓ fun _ A => .nx ℓ A
def sRet (f : EF) : SF := fun ℓ A => (f ℓ A).toS ℓ fun v A => .rt v A
def sRetN : SF := fun _ A => .rt .non A
def sIf (t : TF) (f g : SF) : SF := fun ℓ A => (t ℓ A).toS ℓ fun b A => if b then f ℓ A else g ℓ A
def sSet (i : Nat) (f : EF) : SF := fun ℓ A => (f ℓ A).toS ℓ fun v A => .nx (ℓ.set i (some v)) A
def sBrk : SF := fun ℓ A => .bk ℓ A
def sCnt : SF := fun ℓ A => .ct ℓ A
def forLoop (w : Walk) (tg : GF1) (body : SF) : Nat → Nat → LSt → AH → SRes
  | 0, _, ℓ, A => if w.stop A then .nx ℓ A else .bad
  | m + 1, i, ℓ, A => match w.get i A with
    | none => .bad
    | some x => match tg x ℓ A with
      | none => .bad
      | some ℓ1 => match body ℓ1 A with
        | .nx ℓ' A' => forLoop w tg body m (i + 1) ℓ' A'
        | .ct ℓ' A' => forLoop w tg body m (i + 1) ℓ' A'
        | .bk ℓ' A' => .nx ℓ' A'
        | .rt v A' => .rt v A'
        | .exc c fs ℓ' A' => .exc c fs ℓ' A'
        | .bad => .bad
def sFor (it : IF) (tg : GF1) (body : SF) : SF := fun ℓ A => (it ℓ A).toS ℓ fun w A => forLoop w tg body w.n 0 ℓ A
def whileLoop (t : TF) (body : SF) : Nat → LSt → AH → SRes
  | 0, _, _ => .bad
  | m + 1, ℓ, A => match t ℓ A with
    | .bad => .bad
    | .exc c fs A' => .exc c fs ℓ A'
    | .ok false A' => .nx ℓ A'
    | .ok true A' => match body ℓ A' with
      | .nx ℓ' A' => whileLoop t body m ℓ' A'
      | .ct ℓ' A' => whileLoop t body m ℓ' A'
      | .bk ℓ' A' => .nx ℓ' A'
      | .rt v A' => .rt v A'
      | .exc c fs ℓ' A' => .exc c fs ℓ' A'
      | .bad => .bad
def whileFuel : Nat := 1000000000
def sWhile (t : TF) (body : SF) : SF := fun ℓ A => whileLoop t body whileFuel ℓ A

section
variable {R : Rc} {X : Cx} {W : WX} {ta : TE} {fa : EF} {t u : TS} {f g : SF} {tc : TT} {fc : TF}
theorem simS_next : SimS R W tNext sNext := fun D σ ℓ H ι A L M q => q ι H σ (Up.refl _ _ _) M L
theorem simS_seq (h1 : SimS R W t f) (h2 : SimS R W u g) : SimS R W (tSeq t u) (sSeq f g) := fun D σ ℓ H ι A L M q =>
  h1 { D with nx := u D } σ ℓ H ι A L M (by
    unfold sSeq at q
    cases e : f ℓ A with
    | nx ℓ1 A1 =>
      rw [e] at q
      exact fun ι1 H1 σ1 U1 M1 L1 => h2 D σ1 ℓ1 H1 ι1 A1 L1 M1 (ThenS.up U1 q)
    | rt v A1 => rw [e] at q; exact q
    | bk ℓ1 A1 => rw [e] at q; exact q
    | ct ℓ1 A1 => rw [e] at q; exact q
    | exc c fs ℓ1 A1 => rw [e] at q; exact q
    | bad => rw [e] at q; exact q)
theorem simS_expr (ha : Sim R (VR R) W ta fa) : SimS R W (tDrop ta) (sExpr fa) := fun D σ ℓ H ι A L M q =>
  ha σ ℓ H ι A _ L M (ThenS.ofE L q fun a A1 ι1 H1 x U1 M1 r1 L1 q1 => q1 ι1 H1 σ (Up.refl _ _ _) M1 L1)
theorem simS_ret (ha : Sim R (VR R) W ta fa) : SimS R W (tRet ta) (sRet fa) := fun D σ ℓ H ι A L M q =>
  ha σ ℓ H ι A _ L M (ThenS.ofE L q fun a A1 ι1 H1 x U1 M1 r1 L1 q1 => q1 ι1 H1 x (Up.refl _ _ _) M1 r1)
theorem simS_retN : SimS R W tRetN sRetN := fun D σ ℓ H ι A L M q => q ι H .non (Up.refl _ _ _) M mk_non
theorem simS_brk : SimS R W tBreak sBrk := fun D σ ℓ H ι A L M q => q ι H σ (Up.refl _ _ _) M L
theorem simS_cnt : SimS R W tCont sCnt := fun D σ ℓ H ι A L M q => q ι H σ (Up.refl _ _ _) M L
theorem simS_if (hc : Sim R eqR W tc fc) (h1 : SimS R W t f) (h2 : SimS R W u g) : SimS R W (tIfS tc t u) (sIf fc f g) := fun D σ ℓ H ι A L M q =>
  hc σ ℓ H ι A _ L M (ThenS.ofE (rel := eqR) L q fun a A1 ι1 H1 x U1 M1 r1 L1 q1 => by
    cases r1
    cases a with
    | true => exact h1 D σ ℓ H1 ι1 A1 L1 M1 q1
    | false => exact h2 D σ ℓ H1 ι1 A1 L1 M1 q1)
theorem simS_set {i : Nat} (ha : Sim R (VR R) W ta fa) : SimS R W (tAsg ta (gName i)) (sSet i fa) := fun D σ ℓ H ι A L M q =>
  ha σ ℓ H ι A _ L M (ThenS.ofE L q fun a A1 ι1 H1 x U1 M1 r1 L1 q1 => q1 ι1 H1 _ (Up.refl _ _ _) M1 (L1.set r1))
theorem simS_for {wi : TI} {it : IF} {tg : TG} {ftg : GF1} (hi : Sim R (WR R) W wi it) (hg : SimG R tg ftg) (hb : SimS R W t f) : SimS R W (tFor wi tg t) (sFor it ftg f) := fun D σ ℓ H ι A L M q =>
  hi σ ℓ H ι A _ L M (ThenS.ofE (rel := WR R) L q fun w A1 ι1 H1 J U1 M1 r1 L1 q1 => by
    refine ⟨fun i m σ' H' => ∃ ι' A' ℓ', Up R ι1 ι' H1 H' ∧ Emb R ι' A' H' ∧ LR R ι' H' ℓ' σ' ∧ i + m = w.n ∧ ThenS R (forLoop w ftg f m i ℓ' A') ι' H' D W, ⟨w.n, ι1, A1, ℓ, Up.refl _ _ _, M1, L1, by omega, q1⟩, ?_⟩
    rintro i m σ' H' ⟨ι', A', ℓ', U', M', L', hn, q'⟩
    cases m with
    | zero =>
      unfold forLoop at q'
      by_cases hs : w.stop A' = true
      · rw [if_pos hs] at q'
        have hi' : i = w.n := by omega
        subst hi'
        exact .inl ⟨r1.stop ι' H' A' U' M' hs, q' ι' H' σ' (Up.refl _ _ _) M' L'⟩
      · rw [if_neg hs] at q'
        exact False.elim q'
    | succ m =>
      unfold forLoop at q'
      cases e1 : w.get i A' with
      | none => rw [e1] at q'; exact False.elim q'
      | some x =>
        rw [e1] at q'
        cases e2 : ftg x ℓ' A' with
        | none => simp only [e2] at q'; exact False.elim q'
        | some ℓ2 =>
          simp only [e2] at q'
          obtain ⟨g1, g2⟩ := r1.go i ι' H' A' x U' M' (by omega) e1
          refine .inr ⟨g1, fun σ3 H3 => ∃ ι3 A3 ℓ3, Up R ι1 ι3 H1 H3 ∧ Emb R ι3 A3 H3 ∧ LR R ι3 H3 ℓ3 σ3 ∧ (i + 1) + m = w.n ∧ ThenS R (forLoop w ftg f m (i + 1) ℓ3 A3) ι3 H3 D W, fun σ3 H3 h3 => ⟨m, Nat.lt_succ_self m, h3⟩, fun y H2 hy => ?_⟩
          obtain ⟨U2, M2, v2⟩ := g2 y H2 hy
          refine hg x y σ' ℓ' ℓ2 H2 ι' A' _ (L'.up U2) M2 v2 e2 fun σ4 L4 => ?_
          refine hb _ σ4 ℓ2 H2 ι' A' L4 M2 ?_
          cases e3 : f ℓ2 A' with
          | nx ℓ5 A5 =>
            simp only [e3] at q'
            exact fun ι5 H5 σ5 U5 M5 L5 => ⟨ι5, A5, ℓ5, (U'.trans U2).trans U5, M5, L5, by omega, ThenS.up (U2.trans U5) q'⟩
          | ct ℓ5 A5 =>
            simp only [e3] at q'
            exact fun ι5 H5 σ5 U5 M5 L5 => ⟨ι5, A5, ℓ5, (U'.trans U2).trans U5, M5, L5, by omega, ThenS.up (U2.trans U5) q'⟩
          | bk ℓ5 A5 =>
            simp only [e3] at q'
            exact fun ι5 H5 σ5 U5 M5 L5 => q' ι5 H5 σ5 (U2.trans U5) M5 L5
          | rt v A5 =>
            simp only [e3] at q'
            exact fun ι5 H5 x5 U5 M5 L5 => q' ι5 H5 x5 (U2.trans U5) M5 L5
          | exc c fs ℓ5 A5 =>
            simp only [e3] at q'
            exact fun ι5 H5 σ5 c5 d5 U5 M5 L5 x5 => q' ι5 H5 σ5 c5 d5 (U2.trans U5) M5 L5 x5
          | bad => simp only [e3] at q'; exact False.elim q')
theorem simS_while (hc : Sim R eqR W tc fc) (hb : SimS R W t f) : SimS R W (tWhile tc t) (sWhile fc f) := fun D σ ℓ H ι A L M q => by
  refine ⟨fun m σ' H' => ∃ ι' A' ℓ', Emb R ι' A' H' ∧ LR R ι' H' ℓ' σ' ∧ ThenS R (whileLoop fc f m ℓ' A') ι' H' D W, ⟨whileFuel, ι, A, ℓ, M, L, q⟩, ?_⟩
  rintro m σ' H' ⟨ι', A', ℓ', M', L', q'⟩
  cases m with
  | zero => exact False.elim q'
  | succ m =>
    unfold whileLoop at q'
    refine hc σ' ℓ' H' ι' A' _ L' M' ?_
    cases e : fc ℓ' A' with
    | bad => simp only [e] at q'; exact q'
    | exc c fs A1 =>
      simp only [e] at q'
      exact fun ι1 H1 c1 d1 U1 M1 x1 => q' ι1 H1 σ' c1 d1 U1 M1 (L'.up U1) x1
    | ok b A1 =>
      cases b with
      | false =>
        simp only [e] at q'
        intro ι1 H1 b U1 M1 hb'
        cases hb'
        exact q' ι1 H1 σ' U1 M1 (L'.up U1)
      | true =>
        simp only [e] at q'
        intro ι1 H1 b U1 M1 hb'
        cases hb'
        show ∃ N : L2.St → Hp → Prop, _
        refine ⟨fun σ3 H3 => ∃ ι3 A3 ℓ3, Emb R ι3 A3 H3 ∧ LR R ι3 H3 ℓ3 σ3 ∧ ThenS R (whileLoop fc f m ℓ3 A3) ι3 H3 D W, fun σ3 H3 h3 => ⟨m, Nat.lt_succ_self m, h3⟩, ?_⟩
        refine hb _ σ' ℓ' H1 ι1 A1 (L'.up U1) M1 ?_
        cases e3 : f ℓ' A1 with
        | nx ℓ5 A5 =>
          simp only [e3] at q'
          exact fun ι5 H5 σ5 U5 M5 L5 => ⟨ι5, A5, ℓ5, M5, L5, ThenS.up (U1.trans U5) q'⟩
        | ct ℓ5 A5 =>
          simp only [e3] at q'
          exact fun ι5 H5 σ5 U5 M5 L5 => ⟨ι5, A5, ℓ5, M5, L5, ThenS.up (U1.trans U5) q'⟩
        | bk ℓ5 A5 =>
          simp only [e3] at q'
          exact fun ι5 H5 σ5 U5 M5 L5 => q' ι5 H5 σ5 (U1.trans U5) M5 L5
        | rt v A5 =>
          simp only [e3] at q'
          exact fun ι5 H5 x5 U5 M5 L5 => q' ι5 H5 x5 (U1.trans U5) M5 L5
        | exc c fs ℓ5 A5 =>
          simp only [e3] at q'
          exact fun ι5 H5 σ5 c5 d5 U5 M5 L5 x5 => q' ι5 H5 σ5 c5 d5 (U1.trans U5) M5 L5 x5
        | bad => simp only [e3] at q'; exact False.elim q'
end
end Sh

set_option Elab.async false
set_option linter.all false
set_option maxRecDepth 100000
set_option maxHeartbeats 2000000
namespace Sh
open PySem L2 PyProof.Rows

/-! ### list comprehensions -/
def wipeA (ℓ : LSt) : List Nat → LSt
  | [] => ℓ
  | v :: vs => (wipeA ℓ vs).set v none
def noX {α : Type} (r : Res α) : Res α := match r with
  | .ok a A => .ok a A
  | _ => .bad
def lcLoop (w : Walk) (tg : GF1) (t : TF) (elt : EF) (ℓ : LSt) : Nat → Nat → List AV → AH → Res (List AV)
  | 0, _, acc, A => if w.stop A then .ok acc A else .bad
  | m + 1, i, acc, A => match w.get i A with
    | none => .bad
    | some x => match tg x ℓ A with
      | none => .bad
      | some ℓ1 => (noX (t ℓ1 A)).bind fun b A => if b then (noX (elt ℓ1 A)).bind fun y A => (if acc.length < sizeLine then lcLoop w tg t elt ℓ m (i + 1) (acc ++ [y]) A else .bad)
          else lcLoop w tg t elt ℓ m (i + 1) acc A
def eLc (it : IF) (tg : GF1) (t : TF) (elt : EF) (vs : List Nat) : EF := fun ℓ A => (it ℓ A).bind fun w A => (lcLoop w tg t elt (wipeA ℓ vs) w.n 0 [] A).bind fun acc A => .ok (.ref A.length) (A ++ [.lst acc])
def tYesF : TF := fun _ A => .ok true A
theorem wipe_in {σ : L2.St} {i : Nat} : ∀ {vs : List Nat}, i ∈ vs → i < σ.length → (wipe σ vs)[i]? = some none
  | [], h, _ => nomatch h
  | v :: vs, h, hl => by
    unfold wipe
    by_cases e : v = i
    · subst e
      rw [List.getElem?_set_self (by rw [wipe_length]; exact hl)]
    · rw [List.getElem?_set_ne e]
      exact wipe_in ((List.mem_cons.mp h).elim (fun z => absurd z.symm e) id) hl
theorem wipe_set {σ : L2.St} {j : Nat} {x : Option V} {vs : List Nat} (h : j ∈ vs) : wipe (σ.set j x) vs = wipe σ vs := by
  apply List.ext_getElem?
  intro i
  by_cases hi : i ∈ vs
  · by_cases hl : i < σ.length
    · rw [wipe_in hi hl, wipe_in hi (by rw [List.length_set]; exact hl)]
    · rw [List.getElem?_eq_none (by rw [wipe_length, List.length_set]; omega), List.getElem?_eq_none (by rw [wipe_length]; omega)]
  · rw [wipe_out hi, wipe_out hi, List.getElem?_set_ne (fun (e : j = i) => hi (by rw [← e]; exact h))]
theorem wipe_wipe {σ : L2.St} {vs : List Nat} : wipe (wipe σ vs) vs = wipe σ vs := by
  apply List.ext_getElem?
  intro i
  by_cases hi : i ∈ vs
  · by_cases hl : i < σ.length
    · rw [wipe_in hi (by rw [wipe_length]; exact hl), wipe_in hi hl]
    · rw [List.getElem?_eq_none (by rw [wipe_length, wipe_length]; omega), List.getElem?_eq_none (by rw [wipe_length]; omega)]
  · rw [wipe_out hi]
theorem wipeA_length (ℓ : LSt) : ∀ vs : List Nat, (wipeA ℓ vs).length = ℓ.length
  | [] => rfl
  | v :: vs => by unfold wipeA; rw [List.length_set, wipeA_length ℓ vs]
theorem wipeA_some {ℓ : LSt} {i : Nat} {x : AV} : ∀ {vs : List Nat}, (wipeA ℓ vs)[i]? = some (some x) → ℓ[i]? = some (some x) ∧ i ∉ vs
  | [], h => ⟨h, by simp⟩
  | v :: vs, h => by
    unfold wipeA at h
    by_cases hi : v = i
    · subst hi
      by_cases hv : v < (wipeA ℓ vs).length
      · rw [List.getElem?_set_self hv] at h; cases h
      · rw [List.getElem?_eq_none (by simpa using hv)] at h; cases h
    · rw [List.getElem?_set_ne hi] at h
      obtain ⟨h1, h2⟩ := wipeA_some h
      exact ⟨h1, by simp only [List.mem_cons, not_or]; exact ⟨fun e => hi e.symm, h2⟩⟩
theorem LR.wipe {R : Rc} {ι : List Addr} {H : Hp} {ℓ : LSt} {σ : L2.St} {vs : List Nat} (L : LR R ι H ℓ σ) : LR R ι H (wipeA ℓ vs) (L2.wipe σ vs) :=
  ⟨by rw [wipeA_length, wipe_length]; exact L.1, fun i v e => by
    obtain ⟨h1, h2⟩ := wipeA_some e
    obtain ⟨x, h3, h4⟩ := L.2 i v h1
    exact ⟨x, by rw [wipe_out h2]; exact h3, h4⟩⟩
/-- a target whose slots are among vs -/
def SimGW (R : Rc) (g : TG) (f : GF1) (vs : List Nat) : Prop := ∀ (v : AV) (x : V) (σ : L2.St) (ℓ ℓ' : LSt) (H : Hp) (ι : List Addr) (A : AH) (Q : L2.St → Hp → Prop), LR R ι H ℓ σ → Emb R ι A H → VR R ι H v x → f v ℓ A = some ℓ' →
  (∀ σ', LR R ι H ℓ' σ' → L2.wipe σ' vs = L2.wipe σ vs → Q σ' H) → g x σ H Q
theorem simGW_name {R : Rc} {i : Nat} {vs : List Nat} (h : i ∈ vs) : SimGW R (gName i) (gNm i) vs := fun v x σ ℓ ℓ' H ι A Q L M r e q => by
  unfold gNm at e
  cases e
  exact q _ (L.set r) (wipe_set h)
def WF : WX := fun _ _ _ _ => False
section
variable {R : Rc} {X : Cx} {W : WX}
theorem Then.noX {α β : Type} {rel : List Addr → Hp → α → β → Prop} {r : Res α} {ι : List Addr} {H : Hp} {Q : β → Hp → Prop} {E E' : XK} (h : Then R rel (Sh.noX r) ι H Q E) : Then R rel r ι H Q E' := by
  cases r with
  | ok a A => exact h
  | exc c fs A => exact False.elim h
  | bad => exact h
mutual
theorem VR.kp {ι : List Addr} {H H' : Hp} (ht : ∀ p xs, SqT R.K H p xs → SqT R.K H' p xs) (hf : ∀ p ob u, H p = some (.frz ob u) → H' p = some (.frz ob u)) : ∀ {a : AV} {x : V}, VR R ι H a x → VR R ι H' a x
  | .non, _, h => by unfold VR at h ⊢; exact h
  | .bl _, _, h => by unfold VR at h ⊢; exact h
  | .int _, _, h => by unfold VR at h ⊢; exact h
  | .str _, _, h => by unfold VR at h ⊢; exact h
  | .ty _, _, h => by unfold VR at h ⊢; exact h
  | .cls _, _, h => by unfold VR at h ⊢; exact h
  | .ref n, _, h => by unfold VR at h ⊢; exact h
  | .tup xs, _, h => by
    unfold VR at h ⊢
    obtain ⟨p, vs, e, q, r⟩ := h
    exact ⟨p, vs, e, ht _ _ q, VRs.kp ht hf r⟩
  | .fl xs, _, h => by
    unfold VR at h ⊢
    obtain ⟨p, vs, e, q, r⟩ := h
    refine ⟨p, vs, e, ?_, VRs.kp ht hf r⟩
    rcases q with ⟨ob, q⟩ | q
    · exact .inl ⟨ob, hf _ _ _ q⟩
    · exact .inr q
  | .gd _ _, _, h => by unfold VR at h ⊢; exact h
theorem VRs.kp {ι : List Addr} {H H' : Hp} (ht : ∀ p xs, SqT R.K H p xs → SqT R.K H' p xs) (hf : ∀ p ob u, H p = some (.frz ob u) → H' p = some (.frz ob u)) : ∀ {as : List AV} {xs : List V}, VRs R ι H as xs → VRs R ι H' as xs
  | [], _, h => by unfold VRs at h ⊢; exact h
  | a :: as, _, h => by
    unfold VRs at h ⊢
    obtain ⟨v, r, e, q, t⟩ := h
    exact ⟨v, r, e, VR.kp ht hf q, VRs.kp ht hf t⟩
end
theorem FR.kp {ι : List Addr} {H H' : Hp} (ht : ∀ p xs, SqT R.K H p xs → SqT R.K H' p xs) (hf : ∀ p ob u, H p = some (.frz ob u) → H' p = some (.frz ob u)) : ∀ {as : List (Str × AV)} {xs : List (Str × V)}, FR R ι H as xs → FR R ι H' as xs
  | [], _, h => by unfold FR at h ⊢; exact h
  | (f, a) :: as, _, h => by
    unfold FR at h ⊢
    obtain ⟨v, r, e, q, t⟩ := h
    exact ⟨v, r, e, VR.kp ht hf q, FR.kp ht hf t⟩
theorem KR.kp {ι : List Addr} {H H' : Hp} (ht : ∀ p xs, SqT R.K H p xs → SqT R.K H' p xs) (hf : ∀ p ob u, H p = some (.frz ob u) → H' p = some (.frz ob u)) : ∀ {as : List (Key × AV)} {xs : List (Key × V)}, KR R ι H as xs → KR R ι H' as xs
  | [], _, h => by unfold KR at h ⊢; exact h
  | (f, a) :: as, _, h => by
    unfold KR at h ⊢
    obtain ⟨v, r, e, q, t⟩ := h
    exact ⟨v, r, e, VR.kp ht hf q, KR.kp ht hf t⟩
theorem OR.kp {ι : List Addr} {H H' : Hp} {a : Addr} {o : AO} (ht : ∀ p xs, SqT R.K H p xs → SqT R.K H' p xs) (hf : ∀ p ob u, H p = some (.frz ob u) → H' p = some (.frz ob u)) (k : ∀ w, H a = some w → H' a = some w) (h : OR R ι H a o) : OR R ι H' a o := by
  cases o with
  | lst xs => obtain ⟨vs, e, r⟩ := h; exact ⟨vs, k _ e, r.kp ht hf⟩
  | dct kvs => obtain ⟨vs, e, r⟩ := h; exact ⟨vs, k _ e, r.kp ht hf⟩
  | ins c fs => obtain ⟨C, dx, fs', e1, e, r⟩ := h; exact ⟨C, dx, fs', e1, k _ e, r.kp ht hf⟩
theorem sim_lc {wi : TI} {it : IF} {tg : TG} {ftg : GF1} {tt : TT} {ft : TF} {te : TE} {fe : EF} {vs : List Nat} (hi : Sim R (WR R) W wi it) (hg : SimGW R tg ftg vs) (ht : Sim R eqR WF tt ft) (he : Sim R (VR R) WF te fe) :
    Sim R (VR R) W (tLc wi tg tt te vs) (eLc it ftg ft fe vs) := fun σ ℓ H ι A Q L M q =>
  hi σ ℓ H ι A _ L M (q.bind fun w A1 ι1 H1 J U1 M1 r1 q1 => by
    intro D hD
    have nD : D ∉ ι1 := M1.new hD
    have UD : Up R ι1 ι1 H1 (upd H1 D (.lst [])) := Up.laid hD
    -- the word between two turns
    let Wd : Nat → Nat → Hp → Prop := fun i m H' => ∃ ι' A' acc accV, Up R ι1 ι' H1 H' ∧ Emb R ι' A' H' ∧ D ∉ ι' ∧ H' D = some (.lst accV) ∧ VRs R ι' H' acc accV ∧ i + m = w.n ∧
      Then R (VR R) ((lcLoop w ftg ft fe (wipeA ℓ vs) m i acc A').bind fun acc A => .ok (.ref A.length) (A ++ [.lst acc])) ι1 H1 Q (fun c d H' => W c d σ H')
    have keepD : ∀ {ι2 ι3 : List Addr} {H2 H3 : Hp} {accV : List V}, Up R ι2 ι3 H2 H3 → D ∉ ι2 → H2 D = some (.lst accV) → D ∉ ι3 ∧ H3 D = some (.lst accV) := fun {ι2 ι3 H2 H3 accV} U n h => by
      refine ⟨fun hm => ?_, U.oth D _ h n⟩
      obtain ⟨τ, e, f⟩ := U.pre
      rw [e] at hm
      rcases List.mem_append.mp hm with z | z
      · exact n z
      · rw [f D z] at h
        cases h
    refine ⟨Wd, ⟨w.n, ι1, A1, [], [], UD, M1.laid hD, nD, upd_same, by unfold VRs; rfl, by omega, q1⟩, ?_⟩
    rintro i m H' ⟨ι', A', acc, accV, U', M', n', hD', ra, hn, q'⟩
    cases m with
    | zero =>
      unfold lcLoop at q'
      by_cases hs : w.stop A' = true
      · rw [if_pos hs] at q'
        have hi' : i = w.n := by omega
        subst hi'
        refine .inl ⟨r1.stop ι' H' A' U' M' hs, ?_⟩
        have U2 : Up R ι1 (ι' ++ [D]) H1 H' := by
          have U3 := U'
          obtain ⟨τ, e, f⟩ := U3.pre
          refine ⟨⟨τ ++ [D], by rw [e, List.append_assoc], fun b hb => ?_⟩, U3.tup, U3.frz, U3.xd, U3.oth, U3.there⟩
          rcases List.mem_append.mp hb with z | z
          · exact f b z
          · rw [List.mem_singleton.mp z]; exact hD
        refine q' (ι' ++ [D]) H' _ U2 (M'.name n' ⟨accV, hD', ra.pre ⟨[D], rfl⟩⟩) ?_
        refine mk_ref ?_
        rw [← M'.len]
        simp
      · rw [if_neg hs] at q'
        exact False.elim q'
    | succ m =>
      unfold lcLoop at q'
      cases e1 : w.get i A' with
      | none => simp only [e1] at q'; exact False.elim q'
      | some x =>
        simp only [e1] at q'
        cases e2 : ftg x (wipeA ℓ vs) A' with
        | none => simp only [e2] at q'; exact False.elim q'
        | some ℓ2 =>
          simp only [e2] at q'
          obtain ⟨g1, g2⟩ := r1.go i ι' H' A' x U' M' (by omega) e1
          refine .inr ⟨g1, fun H3 => Wd (i + 1) m H3, fun H3 h3 => ⟨m, Nat.lt_succ_self m, h3⟩, fun y H2 hy => ?_⟩
          obtain ⟨U2, M2, v2⟩ := g2 y H2 hy
          obtain ⟨n2, hD2⟩ := keepD U2 n' hD'
          have L2' : LR R ι' H2 (wipeA ℓ vs) (L2.wipe σ vs) := ((L.up U1).up (U'.trans U2)).wipe
          refine hg x y (L2.wipe σ vs) (wipeA ℓ vs) ℓ2 H2 ι' A' _ L2' M2 v2 e2 fun σ4 L4 hw4 => ⟨by rw [hw4, wipe_wipe], ?_⟩
          -- the test
          cases e3 : ft ℓ2 A' with
          | bad => simp only [e3, noX, Res.bind] at q'; exact False.elim q'
          | exc c fs A5 => simp only [e3, noX, Res.bind] at q'; exact False.elim q'
          | ok b A5 =>
            refine ht σ4 ℓ2 H2 ι' A' _ L4 M2 ?_
            rw [e3]
            intro ι5 H5 b5 U5 M5 hb5
            cases hb5
            obtain ⟨n5, hD5⟩ := keepD U5 n2 hD2
            have ra5 := (ra.up U2).up U5
            simp only [e3, noX, Res.bind] at q'
            cases b with
            | false =>
              simp only [Bool.false_eq_true, if_false] at q' ⊢
              exact ⟨ι5, A5, acc, accV, (U'.trans U2).trans U5, M5, n5, hD5, ra5, by omega, q'⟩
            | true =>
              simp only [if_true] at q' ⊢
              cases e6 : fe ℓ2 A5 with
              | bad => simp only [e6, Sh.noX, Res.bind] at q'; exact False.elim q'
              | exc c fs A6 => simp only [e6, Sh.noX, Res.bind] at q'; exact False.elim q'
              | ok z A6 =>
                refine he σ4 ℓ2 H5 ι5 A5 _ (L4.up U5) M5 ?_
                rw [e6]
                intro ι6 H6 y6 U6 M6 r6
                obtain ⟨n6, hD6⟩ := keepD U6 n5 hD5
                have ra6 := ra5.up U6
                simp only [e6, Sh.noX, Res.bind] at q'
                by_cases hl : acc.length < sizeLine
                · rw [if_pos hl] at q'
                  refine ⟨accV, hD6, by rw [← ra6.length]; exact hl, ?_⟩
                  -- the list that is made is not named: all is as it was
                  have U8 := (U'.trans U2).trans (U5.trans U6)
                  have V8 : Up R ι6 ι6 H6 (upd H6 D (.lst (accV ++ [y6]))) ∨ True := .inr True.intro
                  have tupK : ∀ p xs, SqT R.K H6 p xs → SqT R.K (upd H6 D (.lst (accV ++ [y6]))) p xs := fun p xs h9 => by
                    rcases h9 with (h9 | ⟨ob, h9⟩) | h9
                    · exact .inl (.inl (by rw [upd_ne (fun z => by subst z; rw [hD6] at h9; cases h9)]; exact h9))
                    · exact .inl (.inr ⟨ob, by rw [upd_ne (fun z => by subst z; rw [hD6] at h9; cases h9)]; exact h9⟩)
                    · exact .inr h9
                  have frzK : ∀ p ob u, H6 p = some (.frz ob u) → upd H6 D (.lst (accV ++ [y6])) p = some (.frz ob u) := fun p ob u h9 => by
                    rw [upd_ne (fun z => by subst z; rw [hD6] at h9; cases h9)]
                    exact h9
                  have U7 : Up R ι1 ι6 H1 (upd H6 D (.lst (accV ++ [y6]))) := by
                    refine ⟨U8.pre, fun p xs h => tupK p xs (U8.tup p xs h), fun p ob u h => frzK p ob u (U8.frz p ob u h), fun p fs h => ?_, fun p o h nn => ?_, fun p h => ?_⟩
                    · have h9 := U8.xd p fs h
                      rw [upd_ne (fun z => by subst z; rw [hD6] at h9; cases h9)]
                      exact h9
                    · rw [upd_ne (ne_of_none h hD)]
                      exact U8.oth p o h nn
                    · by_cases hp : p = D
                      · subst hp
                        rw [upd_same] at h
                        cases h
                      · rw [upd_ne hp] at h
                        exact U8.there p h
                  -- a change of an unnamed thing: values and named objects stay
                  have V9 : ∀ {v : AV} {x : V}, VR R ι6 H6 v x → VR R ι6 (upd H6 D (.lst (accV ++ [y6]))) v x := fun h => VR.kp tupK frzK h
                  have W9 : ∀ {v : List AV} {x : List V}, VRs R ι6 H6 v x → VRs R ι6 (upd H6 D (.lst (accV ++ [y6]))) v x := fun h => VRs.kp tupK frzK h
                  refine ⟨ι6, A6, acc ++ [z], accV ++ [y6], U7, ⟨M6.len, M6.nd, fun k o a ek ea => OR.kp tupK frzK (fun w hw => by rw [upd_ne (fun z => n6 (by rw [← z]; exact List.mem_of_getElem? ea))]; exact hw) (M6.obj k o a ek ea)⟩, n6, upd_same, (W9 ra6).append (by unfold VRs; exact ⟨y6, [], rfl, V9 r6, by unfold VRs; rfl⟩), by omega, q'⟩
                · rw [if_neg hl] at q'
                  exact False.elim q')
end
end Sh

set_option Elab.async false
set_option linter.all false
set_option maxRecDepth 100000
set_option maxHeartbeats 2000000
namespace Sh
open PySem L2 PyProof.Rows

section
variable {R : Rc} {X : Cx} {W : WX}
/-- a thing that has no name is filled -/
theorem tup_kp {H : Hp} {K : PySem.W.Frag} {p : Addr} {o o' : HO} (h : H p = some o) (mu : Mut (some o)) : ∀ q xs, SqT K H q xs → SqT K (upd H p o') q xs := fun q xs h9 => by
  have ne : ∀ q u, H q = some u → ¬ Mut (some u) → q ≠ p := fun q u e nm z => by subst z; rw [h] at e; cases e; exact nm mu
  rcases h9 with (h9 | ⟨ob, h9⟩) | h9
  · exact .inl (.inl (by rw [upd_ne (ne _ _ h9 fun z => z)]; exact h9))
  · exact .inl (.inr ⟨ob, by rw [upd_ne (ne _ _ h9 fun z => z)]; exact h9⟩)
  · exact .inr h9
theorem frz_kp {H : Hp} {p : Addr} {o o' : HO} (h : H p = some o) (mu : Mut (some o)) : ∀ q ob u, H q = some (.frz ob u) → upd H p o' q = some (.frz ob u) := fun q ob u h9 => by
  rw [upd_ne (fun z => by subst z; rw [h] at h9; cases h9; exact mu)]
  exact h9
theorem xd_kp {H : Hp} {p : Addr} {o o' : HO} (h : H p = some o) (mu : Mut (some o)) : ∀ q fs, H q = some (.xd fs) → upd H p o' q = some (.xd fs) := fun q fs h9 => by
  rw [upd_ne (fun z => by subst z; rw [h] at h9; cases h9; exact mu)]
  exact h9
theorem Emb.fill {ι : List Addr} {H : Hp} {A : AH} {p : Addr} {o o' : HO} (m : Emb R ι A H) (n : p ∉ ι) (h : H p = some o) (mu : Mut (some o)) : Emb R ι A (upd H p o') :=
  ⟨m.len, m.nd, fun k w a ek ea => OR.kp (tup_kp h mu) (frz_kp h mu) (fun z hz => by rw [upd_ne (fun e => n (by rw [← e]; exact List.mem_of_getElem? ea))]; exact hz) (m.obj k w a ek ea)⟩
/-- from before the thing was laid -/
theorem Up.fill {ι ι' : List Addr} {H H' : Hp} {p : Addr} {o o' : HO} (u : Up R ι ι' H H') (hp : H p = none) (h : H' p = some o) (mu : Mut (some o)) : Up R ι (ι' ++ [p]) H (L2.upd H' p o') := by
  obtain ⟨τ, e, f⟩ := u.pre
  refine ⟨⟨τ ++ [p], by rw [e, List.append_assoc], fun b hb => ?_⟩, fun q xs z => tup_kp h mu q xs (u.tup q xs z), fun q ob w z => frz_kp h mu q ob w (u.frz q ob w z), fun q fs z => xd_kp h mu q fs (u.xd q fs z), fun q w z nn => ?_, fun q z => ?_⟩
  · rcases List.mem_append.mp hb with z | z
    · exact f b z
    · rw [List.mem_singleton.mp z]; exact hp
  · rw [upd_ne (ne_of_none z hp)]
    exact u.oth q w z nn
  · by_cases hq : q = p
    · subst hq; exact hp
    · rw [upd_ne hq] at z
      exact u.there q z
theorem Up.keepU {ι2 ι3 : List Addr} {H2 H3 : Hp} {p : Addr} {o : HO} (U : Up R ι2 ι3 H2 H3) (n : p ∉ ι2) (h : H2 p = some o) : p ∉ ι3 ∧ H3 p = some o := by
  refine ⟨fun hm => ?_, U.oth p _ h n⟩
  obtain ⟨τ, e, f⟩ := U.pre
  rw [e] at hm
  rcases List.mem_append.mp hm with z | z
  · exact n z
  · rw [f p z] at h
    cases h
end

/-! ### dict displays -/
def pairsF : List (EF × EF) → LSt → AH → Res (List (Key × AV))
  | [], _, A => .ok [] A
  | (fk, fv) :: r, ℓ, A => (fk ℓ A).bind fun k A => (fv ℓ A).bind fun v A => (pairsF r ℓ A).bind fun ps A => match keyOf k with
    | some key => .ok ((key, v) :: ps) A
    | none => .bad
def mergeA (kvs more : List (Key × AV)) : List (Key × AV) := more.foldl (fun acc kv => putA acc kv.1 kv.2) kvs
def eDct (ps : List (EF × EF)) : EF := fun ℓ A => (pairsF ps ℓ A).bind fun kvs A => if kvs.length ≤ 15 then .ok (.ref A.length) (A ++ [.dct (mergeA [] kvs)]) else .bad
def PR (R : Rc) (ι : List Addr) (H : Hp) (kvs : List (Key × AV)) (ps : List (V × V)) : Prop := ∃ kvs', ps = kvs'.map (fun kv => (kV kv.1, kv.2)) ∧ KR R ι H kvs kvs'
section
variable {R : Rc} {X : Cx} {W : WX}
theorem KR.merge {ι : List Addr} {H : Hp} : ∀ {more : List (Key × AV)} {more' : List (Key × V)} {kvs : List (Key × AV)} {kvs' : List (Key × V)}, KR R ι H more more' → KR R ι H kvs kvs' → KR R ι H (mergeA kvs more) (mergeK kvs' more')
  | [], _, _, _, h, k => by unfold KR at h; subst h; exact k
  | (f, a) :: more, _, _, _, h, k => by
    unfold KR at h
    obtain ⟨v, r, rfl, q, t⟩ := h
    exact KR.merge (kvs := putA _ f a) (kvs' := putK _ f v) t (k.put q)
/-- the two lists of pairs, part by part -/
inductive SPs (R : Rc) (W : WX) : List (TE × TE) → List (EF × EF) → Prop
  | nil : SPs R W [] []
  | cons {tk tv : TE} {fk fv : EF} {ts : List (TE × TE)} {fs : List (EF × EF)} : Sim R (VR R) W tk fk → Sim R (VR R) W tv fv → SPs R W ts fs → SPs R W ((tk, tv) :: ts) ((fk, fv) :: fs)
theorem sim_pairs {ts : List (TE × TE)} {fs : List (EF × EF)} (h : SPs R W ts fs) : Sim R (PR R) W (tPairs ts) (pairsF fs) := by
  induction h with
  | nil => exact fun σ ℓ H ι A Q L M q => q.here M ⟨[], rfl, by unfold KR; rfl⟩
  | cons hk hv _ ih =>
    intro σ ℓ H ι A Q L M q
    refine hk σ ℓ H ι A _ L M (q.bind fun a1 A1 ι1 H1 x U1 M1 v1 q1 => hv σ ℓ H1 ι1 A1 _ (L.up U1) M1 (q1.bind fun a2 A2 ι2 H2 y U2 M2 v2 q2 => ih σ ℓ H2 ι2 A2 _ ((L.up U1).up U2) M2 (q2.bind fun a3 A3 ι3 H3 ps U3 M3 v3 q3 => ?_)))
    obtain ⟨kvs', rfl, rk⟩ := v3
    split at q3
    · rename_i key e
      refine q3.here M3 ⟨(key, y) :: kvs', ?_, ?_⟩
      · rw [keyOf_ok e v1]; rfl
      · unfold KR
        exact ⟨y, kvs', rfl, v2.up U3, rk⟩
    · exact False.elim q3
theorem sim_dct {ts : List (TE × TE)} {fs : List (EF × EF)} (h : SPs R W ts fs) : Sim R (VR R) W (tDisp ts) (eDct fs) := fun σ ℓ H ι A Q L M q p hp => by
  have U0 : Up R ι ι H (upd H p (.dK [])) := Up.laid hp
  refine sim_pairs h σ ℓ _ ι A _ (L.up U0) (M.laid hp) ?_
  have n0 : p ∉ ι := M.new hp
  unfold eDct at q
  cases e : pairsF fs ℓ A with
  | bad => rw [e] at q; exact False.elim q
  | exc c gs A1 =>
    rw [e] at q
    exact fun ι1 H1 cls d U1 M1 x1 => q ι1 H1 cls d (U0.trans U1) M1 x1
  | ok kvs A1 =>
    rw [e] at q
    intro ι1 H1 ps U1 M1 ⟨kvs', ep, rk⟩
    obtain ⟨n1, h1⟩ := U1.keepU n0 (upd_same (H := H) (a := p) (o := .dK []))
    refine ⟨h1, kvs', ep, ?_⟩
    simp only [Res.bind] at q
    by_cases hl : kvs.length ≤ 15
    · rw [if_pos hl] at q
      refine ⟨by rw [← rk.length]; exact hl, ?_⟩
      have U2 : Up R ι (ι1 ++ [p]) H (upd H1 p (.dK (mergeK [] kvs'))) := (U0.trans U1).fill hp h1 True.intro
      refine q _ _ _ U2 ((M1.fill n1 h1 True.intro).name n1 ⟨_, upd_same, ?_⟩) (mk_ref (by rw [← M1.len]; simp))
      exact ((rk.merge (by unfold KR; rfl)).kp (tup_kp h1 True.intro) (frz_kp h1 True.intro)).pre ⟨[p], rfl⟩
    · rw [if_neg hl] at q
      exact False.elim q
end

/-! ### o[i] = v -/
def opSet (o i v : AV) (A : AH) : Option AH := match o with
  | .ref n => match A.lst? n, i with
    | some xs, .int k => match ixN xs.length k with
      | some j => some (A.set n (.lst (xs.set j v)))
      | none => none
    | _, i => match A.dct? n, keyOf i with
      | some kvs, some key => if kvs.length < sizeLine then some (A.set n (.dct (putA kvs key v))) else none
      | _, _ => none
  | _ => none
def sSub (fv fo fi : EF) : SF := fun ℓ A => (fv ℓ A).toS ℓ fun v A => (fo ℓ A).toS ℓ fun o A => (fi ℓ A).toS ℓ fun i A => match opSet o i v A with
  | some A' => .nx ℓ A'
  | none => .bad
def rSetE : TSet := fun o i v H Q => rSetL o i v H Q ∨ ∃ a H', o = .ref a ∧ DPut H a i v H' ∧ Q H'
section
variable {R : Rc} {X : Cx} {W : WX}
theorem pset_e (hu : X.A.units + 64 < cLine) : PSet X rSetE := fun pins s σ H o i v ov iv u Q I ro ri rv h => by
  rcases h with h | ⟨a, H', rfl, g, q⟩
  · exact set_list pins s σ H o i v ov iv u Q I ro ri rv h
  · cases ro
    exact d_setItem (by omega) I g ri rv fun s' I' => ⟨H', I', q⟩
theorem simS_sub {tv to ti : TE} {fv fo fi : EF} (hv : Sim R (VR R) W tv fv) (ho : Sim R (VR R) W to fo) (hi : Sim R (VR R) W ti fi) : SimS R W (tAsg tv (gSub to ti rSetE)) (sSub fv fo fi) := fun D σ ℓ H ι A L M q =>
  hv σ ℓ H ι A _ L M (ThenS.ofE L q fun a A1 ι1 H1 x U1 M1 r1 L1 q1 => ho σ ℓ H1 ι1 A1 _ L1 M1 (ThenS.ofE L1 q1 fun b A2 ι2 H2 y U2 M2 r2 L2' q2 => hi σ ℓ H2 ι2 A2 _ L2' M2 (ThenS.ofE L2' q2 fun c A3 ι3 H3 z U3 M3 r3 L3 q3 => by
    have r1' := (r1.up U2).up U3
    have r2' := r2.up U3
    unfold opSet at q3
    cases b with
    | ref n =>
      simp only at q3
      obtain ⟨p, hp, rfl⟩ := vr_ref r2'
      split at q3
      · rename_i A' e
        split at e
        · rename_i xs k e1
          split at e
          · rename_i j e2
            cases e
            obtain ⟨vs, h1, v1⟩ := lst_rd M3 e1 hp
            obtain ⟨U4, M4⟩ := M3.set (w := .lst (xs.set j a)) (o := .lst (vs.set j x)) (lst_at e1) hp ⟨_, upd_same, (v1.set j r1').up (Up.upd h1 True.intro (List.mem_of_getElem? hp))⟩
            refine .inl ⟨p, vs, k, j, rfl, vr_int r3, h1, by rw [← v1.length]; exact e2, ?_⟩
            exact q3 ι3 _ σ U4 M4 (L3.up U4)
          · cases e
        · split at e
          · rename_i kvs key e1 e2
            split at e
            · rename_i hl
              cases e
              obtain ⟨vs, h1, v1⟩ := dct_rd M3 e1 hp
              obtain ⟨U4, M4⟩ := M3.set (w := .dct (putA kvs key a)) (o := .dK (putK vs key x)) (dct_at e1) hp ⟨_, upd_same, (v1.put r1').up (Up.upd h1 True.intro (List.mem_of_getElem? hp))⟩
              refine .inr ⟨p, _, rfl, ?_, q3 ι3 _ σ U4 M4 (L3.up U4)⟩
              rw [keyOf_ok e2 r3]
              exact DPut.k h1 (by rw [← v1.length]; exact hl)
            · cases e
          · cases e
      · exact False.elim q3
    | _ => exact False.elim q3)))
end

/-! ### own functions -/
structure GF where
  fn : Fn
  np : Nat
  dv : List AV
def SpOf (R : Rc) (fn : Fn) (np : Nat) : Sp := fun vs H Q E => ∃ ι A as, Emb R ι A H ∧ VRs R ι H as vs ∧ as.length = np ∧ Then R (VR R) (fn as A) ι H Q E
def eCall (g : GF) (f : AF) : EF := fun ℓ A => (f ℓ A).bind fun as A => if as.length ≤ g.np ∧ g.np ≤ as.length + g.dv.length then g.fn (as ++ g.dv.drop (as.length + g.dv.length - g.np)) A else .bad
theorem SpOf.len {R : Rc} {fn : Fn} {np : Nat} {vs : List V} {H : Hp} {Q : VK} {E : XK} (h : SpOf R fn np vs H Q E) : vs.length = np := by
  obtain ⟨ι, A, as, _, r, e, _⟩ := h
  rw [← r.length, e]
/-- a global name that holds a def whose reading is g -/
structure FunAt (R : Rc) (X : Cx) (k : Nat) (x : Str) (g : GF) (f : Addr) (fd : FuncData) (ps : List Str) (ds : List Value) (dvs : List V) : Prop where
  mg : X.mg x = some (.ref f)
  kp : PySem.W.keepIn X.K (.ref f) = true
  ok : FnOk X.prog X.w X.K X.mg X.base (L2.CX X.prog X.w) k f fd ps (SpOf R g.fn g.np)
  bi : ∀ j, Binds X.K fd ps (ds.drop j)
  vd : Vals dvs ds
  rd : ∀ ι H, VRs R ι H g.dv dvs
section
variable {R : Rc} {X : Cx} {W : WX}
theorem Vals.dropD {xs : List V} {us : List Value} (n : Nat) (h : Vals xs us) : Vals (xs.drop n) (us.drop n) := L2.Vals.drop n h
/-- f(e, ..): by cases on how many defaults are taken -/
def tCallD (sp : Sp) (dvs : List V) (W : WX) (t : TA) : TE := fun σ H Q => t σ H fun vs H1 => ∃ j, sp (vs ++ dvs.drop j) H1 Q (fun c d H' => W c d σ H')
theorem pe_callD {k : Nat} {f : Addr} {fd : FuncData} {ps : List Str} {sp : Sp} {x : Str} {p pos : Pos} {e : Expr} {es : List Expr} {t : TA} {ds : List Value} {dvs : List V}
    (F : FnOk X.prog X.w X.K X.mg X.base (L2.CX X.prog X.w) k f fd ps sp) (hr : Room k X.A) (hg : Gl X x) (hm : X.mg x = some (.ref f)) (hk : PySem.W.keepIn X.K (.ref f) = true) (hb : ∀ j, Binds X.K fd ps (ds.drop j)) (hd : Vals dvs ds) (tk : Takes X W)
    (ha : PA X (e :: es) t) (hdb : (x == ("__debug__" : Str)) = false) (he : starEach (e :: es) X.env = (false, eval e X.env) :: starEach es X.env) (hpl : (backTo pos (starEach es X.env)).any (·.1) = false) :
    PE X (.Call (.Name x p) (e :: es) [] pos) (tCallD sp dvs W t) := by
  refine ⟨fun pins s σ H Q I h => ?_⟩
  refine wpAny_Call_Name_kw (ld_glob I hg hm ?_ hdb)
  refine PySem.W.callWith_K (h₀ := X.base) I.ok.mod.kin hk (thn (ha.run pos pins s σ H _ I h) fun us s1 ⟨vs, H1, I1, r, j, q⟩ => ⟨I1.kIn, ?_⟩) he hpl
  exact run_fnSD (E := fun σ c d H' => W c d σ H') F hr (hb j) (Vals.dropD j hd) (passAt tk σ) I1 r q
theorem pe_callD0 {k : Nat} {f : Addr} {fd : FuncData} {ps : List Str} {sp : Sp} {x : Str} {p pos : Pos} {ds : List Value} {dvs : List V}
    (F : FnOk X.prog X.w X.K X.mg X.base (L2.CX X.prog X.w) k f fd ps sp) (hr : Room k X.A) (hg : Gl X x) (hm : X.mg x = some (.ref f)) (hk : PySem.W.keepIn X.K (.ref f) = true) (hb : ∀ j, Binds X.K fd ps (ds.drop j)) (hd : Vals dvs ds) (tk : Takes X W)
    (hdb : (x == ("__debug__" : Str)) = false) : PE X (.Call (.Name x p) [] [] pos) (tCallD sp dvs W tNil) := by
  refine ⟨fun pins s σ H Q I h => ?_⟩
  obtain ⟨j, h⟩ := h
  refine wpAny_Call_Name_kw (ld_glob I hg hm ?_ hdb)
  exact PySem.W.callWith_K0 I.kIn hk (run_fnSD (E := fun σ c d H' => W c d σ H') (us := []) F hr (hb j) (Vals.dropD j hd) (passAt tk σ) I .nil h)
theorem VRs.dropV {ι : List Addr} {H : Hp} {as : List AV} {xs : List V} (n : Nat) (h : VRs R ι H as xs) : VRs R ι H (as.drop n) (xs.drop n) := VRs.drop n h
theorem sim_call {k : Nat} {x : Str} {g : GF} {f : Addr} {fd : FuncData} {ps : List Str} {ds : List Value} {dvs : List V} (F : FunAt R X k x g f fd ps ds dvs) {t : TA} {fa : AF} (ha : Sim R (VRs R) W t fa) :
    Sim R (VR R) W (tCallD (SpOf R g.fn g.np) dvs W t) (eCall g fa) := fun σ ℓ H ι A Q L M q =>
  ha σ ℓ H ι A _ L M (q.bind fun as A1 ι1 H1 xs U1 M1 v1 q1 => by
    by_cases hl : as.length ≤ g.np ∧ g.np ≤ as.length + g.dv.length
    · rw [if_pos hl] at q1
      refine ⟨as.length + g.dv.length - g.np, ι1, A1, _, M1, v1.append (VRs.dropV _ (F.rd ι1 H1)), ?_, q1⟩
      rw [List.length_append, List.length_drop]
      omega
    · rw [if_neg hl] at q1
      exact False.elim q1)
end
end Sh

set_option Elab.async false
set_option linter.all false
set_option maxRecDepth 100000
set_option maxHeartbeats 2000000
namespace Sh
open PySem L2 PyProof.Rows

/-! ### methods of built-in types -/
def SimM (R : Rc) (r : V → List V → Hp → VK → Prop) (g : AV → List AV → AH → Res AV) : Prop :=
  ∀ a as x xs H ι A Q E, Emb R ι A H → VR R ι H a x → VRs R ι H as xs → Then R (VR R) (g a as A) ι H Q E → r x xs H Q
inductive RT where
  | list | str | dict
  deriving DecidableEq
def RT.name : RT → String
  | .list => "list" | .str => "str" | .dict => "dict"
def rcv (T : RT) (a : AV) (A : AH) : Bool := match T with
  | .list => (sq? a A).isSome
  | .str => (match a with | .str _ => true | _ => false)
  | .dict => (match a with | .ref n => (A.dct? n).isSome | _ => false)
def eBM (T : RT) (g : AV → List AV → AH → Res AV) (fo : EF) (fa : AF) : EF := fun ℓ A => (fo ℓ A).bind fun a A => if rcv T a A then (fa ℓ A).bind fun as A => g a as A else .bad
section
variable {R : Rc} {X : Cx} {W : WX}
theorem rcv_ok {T : RT} {a : AV} {A : AH} {x : V} {ι : List Addr} {H : Hp} (M : Emb R ι A H) (h : rcv T a A = true) (r : VR R ι H a x) : tyV R.K T.name x H := by
  cases T with
  | list =>
    simp only [rcv] at h
    obtain ⟨xs, e⟩ := Option.isSome_iff_exists.mp h
    obtain ⟨p, vs, rfl, h1, _⟩ := sq_rd M e r
    exact .inl ⟨rfl, vs, h1⟩
  | str =>
    simp only [rcv] at h
    cases a with
    | str s => rw [vr_str r]; rfl
    | _ => cases h
  | dict =>
    simp only [rcv] at h
    cases a with
    | ref n =>
      obtain ⟨kvs, e⟩ := Option.isSome_iff_exists.mp h
      obtain ⟨p, hp, rfl⟩ := vr_ref r
      obtain ⟨vs, h1, _⟩ := dct_rd M e hp
      exact .inr (.inr (.inl ⟨rfl, .inl ⟨vs, h1⟩⟩))
    | _ => cases h
theorem sim_bm {T : RT} {r : V → List V → Hp → VK → Prop} {g : AV → List AV → AH → Res AV} {to : TE} {fo : EF} {t : TA} {fa : AF} (hr : SimM R r g) (ho : Sim R (VR R) W to fo) (ha : Sim R (VRs R) W t fa) :
    Sim R (VR R) W (tBM R.K T.name r to t) (eBM T g fo fa) := fun σ ℓ H ι A Q L M q =>
  ho σ ℓ H ι A _ L M (q.bind fun a A1 ι1 H1 x U1 M1 v1 q1 => by
    by_cases h : rcv T a A1 = true
    · rw [if_pos h] at q1
      exact ⟨rcv_ok M1 h v1, ha σ ℓ H1 ι1 A1 _ (L.up U1) M1 (q1.bind fun as A2 ι2 H2 xs U2 M2 v2 q2 => hr _ _ _ _ _ _ _ _ _ M2 (v1.up U2) v2 q2)⟩
    · rw [if_neg h] at q1
      exact False.elim q1)
theorem sim_bm0 {T : RT} {r : V → List V → Hp → VK → Prop} {g : AV → List AV → AH → Res AV} {to : TE} {fo : EF} (hr : SimM R r g) (ho : Sim R (VR R) W to fo) :
    Sim R (VR R) W (tBM0 R.K T.name r to) (eBM T g fo aNil) := fun σ ℓ H ι A Q L M q =>
  ho σ ℓ H ι A _ L M (q.bind fun a A1 ι1 H1 x U1 M1 v1 q1 => by
    by_cases h : rcv T a A1 = true
    · rw [if_pos h] at q1
      exact ⟨rcv_ok M1 h v1, hr _ _ _ _ _ _ _ _ _ M1 v1 (by unfold VRs; rfl) q1⟩
    · rw [if_neg h] at q1
      exact False.elim q1)
/-- an object of ours is changed, a value comes back -/
theorem Then.chg {ι : List Addr} {H : Hp} {A : AH} {n : Nat} {p : Addr} {v w : AO} {o : HO} {b : AV} {y : V} {Q : VK} {E : XK} (q : Then R (VR R) (.ok b (A.set n w)) ι H Q E) (M : Emb R ι A H) (e : A[n]? = some v) (hp : ι[n]? = some p)
    (hw : Up R ι ι H (upd H p o) → OR R ι (upd H p o) p w) (hy : VR R ι H b y) : Q y (upd H p o) := by
  obtain ⟨u, hu, mu⟩ := (M.obj n v p e hp).ho
  have U : Up R ι ι H (upd H p o) := Up.upd hu mu (List.mem_of_getElem? hp)
  obtain ⟨_, M4⟩ := M.set e hp (hw U)
  exact q ι _ y U M4 (hy.up U)
end
def mAppend (a : AV) (as : List AV) (A : AH) : Res AV := match a, as with
  | .ref n, [v] => match A.lst? n with
    | some xs => if xs.length < sizeLine then .ok .non (A.set n (.lst (xs ++ [v]))) else .bad
    | none => .bad
  | _, _ => .bad
def mExtend (a : AV) (as : List AV) (A : AH) : Res AV := match a, as with
  | .ref n, [.ref m] => match A.lst? n, A.lst? m with
    | some xs, some ys => if xs.length + ys.length ≤ sizeLine then .ok .non (A.set n (.lst (xs ++ ys))) else .bad
    | _, _ => .bad
  | _, _ => .bad
def mPop (a : AV) (as : List AV) (A : AH) : Res AV := match a, as with
  | .ref n, [] => match A.lst? n with
    | some xs => (match xs[xs.length - 1]? with | some y => .ok y (A.set n (.lst xs.dropLast)) | none => .bad)
    | none => .bad
  | .ref n, [.int i] => match A.lst? n with
    | some xs => if -(2 ^ 63) ≤ i ∧ i < 2 ^ 63 then (match seqIndex? i xs.length with
        | some k => (match xs[k]? with | some y => .ok y (A.set n (.lst (xs.eraseIdx k))) | none => .bad)
        | none => .bad) else .bad
    | none => .bad
  | _, _ => .bad
def mInsert (a : AV) (as : List AV) (A : AH) : Res AV := match a, as with
  | .ref n, [.int i, v] => match A.lst? n with
    | some xs => if xs.length < sizeLine ∧ 0 ≤ i ∧ i < 2 ^ 63 then .ok .non (A.set n (.lst (xs.take i.toNat ++ [v] ++ xs.drop i.toNat))) else .bad
    | none => .bad
  | _, _ => .bad
def flatA : AV → Bool
  | .non => true | .bl _ => true | .int _ => true | .str _ => true | _ => false
def eqFA : AV → AV → Bool
  | .non, .non => true
  | .bl a, .bl b => a == b
  | .bl a, .int b => (if a then 1 else 0) == b
  | .int a, .bl b => a == (if b then 1 else 0)
  | .int a, .int b => a == b
  | .str a, .str b => a == b
  | _, _ => false
def mIndex (a : AV) (as : List AV) (A : AH) : Res AV := match as with
  | [y] => match sq? a A with
    | some xs => if flatA y && xs.all flatA then (match xs.findIdx? (fun z => eqFA z y) with | some j => .ok (.int (j : Nat)) A | none => .bad) else .bad
    | none => .bad
  | _ => .bad
section
variable {R : Rc} {X : Cx} {W : WX}
theorem VRs.dropLast' {ι : List Addr} {H : Hp} {as : List AV} {xs : List V} (h : VRs R ι H as xs) : VRs R ι H as.dropLast xs.dropLast := by
  rw [List.dropLast_eq_take, List.dropLast_eq_take, h.length]
  exact h.take _
theorem VRs.eraseIdx {ι : List Addr} {H : Hp} : ∀ {as : List AV} {xs : List V} (n : Nat), VRs R ι H as xs → VRs R ι H (as.eraseIdx n) (xs.eraseIdx n)
  | [], _, _, h => by unfold VRs at h; subst h; simp; unfold VRs; rfl
  | a :: as, _, 0, h => by
    unfold VRs at h
    obtain ⟨v, r, rfl, q, t⟩ := h
    exact t
  | a :: as, _, n + 1, h => by
    unfold VRs at h
    obtain ⟨v, r, rfl, q, t⟩ := h
    rw [List.eraseIdx_cons_succ, List.eraseIdx_cons_succ]
    unfold VRs
    exact ⟨v, _, rfl, q, VRs.eraseIdx n t⟩
theorem VRs.one {ι : List Addr} {H : Hp} {a : AV} {x : V} (h : VR R ι H a x) : VRs R ι H [a] [x] := by
  unfold VRs
  exact ⟨x, [], rfl, h, by unfold VRs; rfl⟩
theorem mAppend_s : SimM R rAppend mAppend := fun a as x xs H ι A Q E M r rs q => by
  unfold mAppend at q
  split at q
  · rename_i n v
    obtain ⟨p, hp, rfl⟩ := vr_ref r
    obtain ⟨y, rfl, r2⟩ := vrs1 rs
    split at q
    · rename_i ys e
      split at q
      · rename_i hl
        obtain ⟨vs, h1, v1⟩ := lst_rd M e hp
        exact ⟨p, vs, y, rfl, rfl, h1, by rw [← v1.length]; exact hl, q.chg M (lst_at e) hp (fun U => ⟨_, upd_same, (v1.append (VRs.one r2)).up U⟩) mk_non⟩
      · exact False.elim q
    · exact False.elim q
  · exact False.elim q
theorem mExtend_s : SimM R rExtend mExtend := fun a as x xs H ι A Q E M r rs q => by
  unfold mExtend at q
  split at q
  · rename_i n m
    obtain ⟨p, hp, rfl⟩ := vr_ref r
    obtain ⟨y, rfl, r2⟩ := vrs1 rs
    obtain ⟨p2, hp2, rfl⟩ := vr_ref r2
    split at q
    · rename_i ys zs e e2
      split at q
      · rename_i hl
        obtain ⟨vs, h1, v1⟩ := lst_rd M e hp
        obtain ⟨ws, h2, v2⟩ := lst_rd M e2 hp2
        exact ⟨p, p2, vs, ws, rfl, rfl, h1, h2, by rw [← v1.length, ← v2.length]; exact hl, q.chg M (lst_at e) hp (fun U => ⟨_, upd_same, (v1.append v2).up U⟩) mk_non⟩
      · exact False.elim q
    · exact False.elim q
  · exact False.elim q
theorem mPop_s : SimM R (fun x xs H Q => rPop x xs H Q ∨ rPopAt x xs H Q) mPop := fun a as x xs H ι A Q E M r rs q => by
  unfold mPop at q
  split at q
  · rename_i n
    obtain ⟨p, hp, rfl⟩ := vr_ref r
    have e0 := vrs0 rs
    subst e0
    split at q
    · rename_i ys e
      split at q
      · rename_i y e2
        obtain ⟨vs, h1, v1⟩ := lst_rd M e hp
        obtain ⟨z, e3, r3⟩ := v1.get e2
        exact .inl ⟨p, vs, z, rfl, rfl, h1, by rw [← v1.length]; exact e3, q.chg M (lst_at e) hp (fun U => ⟨_, upd_same, v1.dropLast'.up U⟩) r3⟩
      · exact False.elim q
    · exact False.elim q
  · rename_i n i
    obtain ⟨p, hp, rfl⟩ := vr_ref r
    obtain ⟨y, rfl, r2⟩ := vrs1 rs
    split at q
    · rename_i ys e
      split at q
      · rename_i hi
        split at q
        · rename_i k e1
          split at q
          · rename_i y e2
            obtain ⟨vs, h1, v1⟩ := lst_rd M e hp
            obtain ⟨z, e3, r3⟩ := v1.get e2
            rw [vr_int r2]
            exact .inr ⟨p, vs, i, k, z, rfl, rfl, h1, hi.1, hi.2, by rw [← v1.length]; exact e1, e3, q.chg M (lst_at e) hp (fun U => ⟨_, upd_same, (v1.eraseIdx k).up U⟩) r3⟩
          · exact False.elim q
        · exact False.elim q
      · exact False.elim q
    · exact False.elim q
  · exact False.elim q
theorem mInsert_s : SimM R (fun x vs H Q => ∃ (l : Addr) (xs : List V) (i : Int) (y : V), x = .ref l ∧ vs = [.int i, y] ∧ H l = some (.lst xs) ∧ xs.length < sizeLine ∧ 0 ≤ i ∧ i < 2 ^ 63 ∧
    Q .non (upd H l (.lst (xs.take i.toNat ++ [y] ++ xs.drop i.toNat)))) mInsert := fun a as x xs H ι A Q E M r rs q => by
  unfold mInsert at q
  split at q
  · rename_i n i v
    obtain ⟨p, hp, rfl⟩ := vr_ref r
    obtain ⟨y, z, rfl, r2, r3⟩ := vrs2 rs
    split at q
    · rename_i ys e
      split at q
      · rename_i hl
        obtain ⟨vs, h1, v1⟩ := lst_rd M e hp
        rw [vr_int r2]
        exact ⟨p, vs, i, z, rfl, rfl, h1, by rw [← v1.length]; exact hl.1, hl.2.1, hl.2.2, q.chg M (lst_at e) hp (fun U => ⟨_, upd_same, (((v1.take _).append (VRs.one r3)).append (v1.drop _)).up U⟩) mk_non⟩
      · exact False.elim q
    · exact False.elim q
  · exact False.elim q
theorem flatA_ok {ι : List Addr} {H : Hp} {a : AV} {x : V} (h : flatA a = true) (r : VR R ι H a x) : flatV x = true := by
  cases a with
  | non => rw [vr_non r]; rfl
  | bl b => rw [vr_bl r]; rfl
  | int b => rw [vr_int r]; rfl
  | str b => rw [vr_str r]; rfl
  | _ => cases h
theorem eqFA_ok {ι : List Addr} {H : Hp} {a b : AV} {x y : V} (ha : flatA a = true) (hb : flatA b = true) (r : VR R ι H a x) (r2 : VR R ι H b y) : eqV x y = eqFA a b := by
  cases a <;> first | cases ha | skip
  all_goals cases b <;> first | cases hb | skip
  all_goals first
    | rw [vr_non r]
    | rw [vr_bl r]
    | rw [vr_int r]
    | rw [vr_str r]
  all_goals first
    | rw [vr_non r2]
    | rw [vr_bl r2]
    | rw [vr_int r2]
    | rw [vr_str r2]
  all_goals rfl
theorem VRs.allFlat {ι : List Addr} {H : Hp} : ∀ {as : List AV} {xs : List V}, VRs R ι H as xs → as.all flatA = true → xs.all flatV = true
  | [], _, h, _ => by unfold VRs at h; subst h; rfl
  | a :: as, _, h, k => by
    unfold VRs at h
    obtain ⟨v, r, rfl, q, t⟩ := h
    simp only [List.all_cons, Bool.and_eq_true] at k ⊢
    exact ⟨flatA_ok k.1 q, VRs.allFlat t k.2⟩
theorem VRs.getV {ι : List Addr} {H : Hp} : ∀ {as : List AV} {xs : List V} {n : Nat} {x : V}, VRs R ι H as xs → xs[n]? = some x → ∃ a, as[n]? = some a ∧ VR R ι H a x := fun {as xs n x} h e => by
  have hl : n < as.length := by rw [h.length]; exact (List.getElem?_eq_some_iff.mp e).1
  obtain ⟨y, e2, r⟩ := h.get (List.getElem?_eq_getElem hl)
  rw [e] at e2
  cases e2
  exact ⟨_, List.getElem?_eq_getElem hl, r⟩
theorem mIndex_s (hK : X.K = R.K) : SimM R (rIndex X.K) mIndex := fun a as x xs H ι A Q E M r rs q => by
  unfold mIndex at q
  split at q
  · rename_i v
    obtain ⟨y, rfl, r2⟩ := vrs1 rs
    split at q
    · rename_i ys e
      obtain ⟨p, vs, rfl, h1, v1⟩ := sq_rd M e r
      split at q
      · rename_i hf
        rw [Bool.and_eq_true] at hf
        split at q
        · rename_i j e2
          rw [List.findIdx?_eq_some_iff_getElem] at e2
          obtain ⟨hj, h2, h3⟩ := e2
          obtain ⟨z, e3, r3⟩ := v1.get (List.getElem?_eq_getElem hj)
          have fl : ∀ (m : Nat) (hm : m < ys.length), flatA ys[m] = true := fun m hm => List.all_eq_true.mp hf.2 _ (List.getElem_mem hm)
          refine ⟨p, vs, y, j, z, rfl, rfl, by rw [hK]; exact h1, flatA_ok hf.1 r2, v1.allFlat hf.2, e3, ?_, fun m z' hm e4 => ?_, q.here M mk_int⟩
          · rw [eqFA_ok (fl j hj) hf.1 r3 r2]
            exact h2
          · obtain ⟨b, e5, r5⟩ := v1.getV e4
            have hm2 : m < ys.length := by omega
            rw [List.getElem?_eq_getElem hm2] at e5
            cases e5
            rw [eqFA_ok (fl m hm2) hf.1 r5 r2]
            have := h3 m hm
            simpa using this
        · exact False.elim q
      · exact False.elim q
    · exact False.elim q
  · exact False.elim q
end

/-! ### isinstance -/
inductive BT where
  | non | bl | int | str | lst | tup | dct
  deriving DecidableEq
def BT.name : BT → String
  | .non => "NoneType" | .bl => "bool" | .int => "int" | .str => "str" | .lst => "list" | .tup => "tuple" | .dct => "dict"
def BT.of (n : String) : Option BT := if n = "int" then some .int else if n = "bool" then some .bl else if n = "str" then some .str else if n = "list" then some .lst else if n = "tuple" then some .tup else if n = "dict" then some .dct else none
def BT.sub (a b : BT) : Bool := decide (a = b) || (decide (a = .bl) && decide (b = .int))
theorem BT.of_name {n : String} {t : BT} (h : BT.of n = some t) : n = t.name := by
  unfold BT.of at h
  repeat' split at h
  all_goals first | (cases h; assumption) | cases h
theorem kit_BT (a b : BT) : kitB a.name b.name = some (BT.sub a b) := by
  cases a <;> cases b <;> decide +kernel
def btOf (a : AV) (A : AH) : Option BT := match a with
  | .non => some .non
  | .bl _ => some .bl
  | .int _ => some .int
  | .str _ => some .str
  | .tup _ => some .tup
  | .fl _ => some .lst
  | .ref n => match A[n]? with
    | some (.lst _) => some .lst
    | some (.dct _) => some .dct
    | _ => none
  | _ => none
def tyNames : List AV → Option (List BT)
  | [] => some []
  | .ty n :: as => match BT.of n, tyNames as with | some t, some ts => some (t :: ts) | _, _ => none
  | _ => none
def bIsi (as : List AV) (A : AH) : Res AV := match as with
  | [a, .ty n] => match btOf a A, BT.of n with
    | some t, some c => .ok (.bl (t.sub c)) A
    | _, _ => .bad
  | [a, .tup cs] => match btOf a A, tyNames cs with
    | some t, some ts => .ok (.bl (ts.any fun c => t.sub c)) A
    | _, _ => .bad
  | _ => .bad
section
variable {R : Rc} {X : Cx} {W : WX}
theorem btOf_ok {ι : List Addr} {H : Hp} {A : AH} {a : AV} {x : V} {t : BT} (M : Emb R ι A H) (h : btOf a A = some t) (r : VR R ι H a x) : TyX R.K H x (.type t.name) := by
  unfold btOf at h
  cases a with
  | non => cases h; rw [vr_non r]; exact .base .non
  | bl b => cases h; rw [vr_bl r]; exact .base (.bl b)
  | int b => cases h; rw [vr_int r]; exact .base (.int b)
  | str b => cases h; rw [vr_str r]; exact .base (.str b)
  | tup xs =>
    cases h
    obtain ⟨p, vs, rfl, h1, _⟩ := vr_tup r
    rcases h1 with (h1 | ⟨ob, h1⟩) | ⟨o, its, n, h1, h2, _⟩
    · exact .base (.tup h1)
    · exact .fTuple h1
    · exact .kTuple h1 h2
  | fl xs =>
    cases h
    obtain ⟨p, vs, rfl, h1, _⟩ := vr_fl r
    rcases h1 with ⟨ob, h1⟩ | ⟨o, its, n, h1, h2, _⟩
    · exact .base (.frz h1)
    · exact .kList h1 h2
  | ref n =>
    obtain ⟨p, hp, rfl⟩ := vr_ref r
    simp only at h
    split at h
    · rename_i ys e
      cases h
      obtain ⟨vs, h1, _⟩ := M.obj n _ p e hp
      exact .base (.lst h1)
    · rename_i ys e
      cases h
      obtain ⟨vs, h1, _⟩ := M.obj n _ p e hp
      exact .base (.dK h1)
    · cases h
  | _ => cases h
def rIsiQ (K : PySem.W.Frag) : List V → Hp → VK → Prop := fun xs H Q => ∃ (x : V) (tp : Addr) (cs : List V) (t : Value) (us : List Value) (b : Bool), xs = [x, .ref tp] ∧ SqT K H tp cs ∧ Paired ClsV cs us ∧ TyX K H x t ∧ PySem.W.kitAny K t us = some b ∧ Q (.bl b) H
theorem call_isiQ : CallR X (.builtin "isinstance") (rIsiQ X.K) := by
  intro pins s σ H xs us Q I r h
  obtain ⟨x, tp, cs, t, ws, b, rfl, hT, k, ty, e, q⟩ := h
  obtain ⟨u1, u2, rfl, r1, r2⟩ := vals2 r
  cases (show u2 = Value.ref tp from r2)
  obtain ⟨P, Z, p, hx⟩ := kit_of I r1 ty
  obtain ⟨its, rv, ⟨o, h1, h2, n, h3⟩, _⟩ := I.tuple hT
  have e3 := ClsV.all k rv
  subst e3
  obtain ⟨oc, od, dt, sl⟩ := o
  simp only at h2 h3
  subst h2 h3
  exact PySem.W.kia_tup Z I.kIn p h1 e hx fun tk => ⟨.bl b, H, I.tok tk, rfl, q⟩
theorem tyNames_ok {ι : List Addr} {H : Hp} {t : BT} {K : PySem.W.Frag} : ∀ {as : List AV} {xs : List V} {ts : List BT}, tyNames as = some ts → VRs R ι H as xs → ∃ us, Paired ClsV xs us ∧ PySem.W.kitAny K (.type t.name) us = some (ts.any fun c => t.sub c)
  | [], _, _, h, r => by unfold tyNames at h; cases h; rw [vrs0 r]; exact ⟨[], .nil, rfl⟩
  | a :: as, _, _, h, r => by
    unfold VRs at r
    obtain ⟨v, rest, rfl, r1, r2⟩ := r
    cases a with
    | ty n =>
      unfold tyNames at h
      split at h
      · rename_i c cs e1 e2
        cases h
        obtain ⟨us, p1, p2⟩ := tyNames_ok (t := t) (K := K) e2 r2
        unfold VR at r1
        subst r1
        refine ⟨.type n :: us, .cons (.ty n) p1, ?_⟩
        rw [BT.of_name e1]
        refine kitAny_cons (b := t.sub c) (kit_ty (kit_BT t c)) (fun hb => ?_) fun hb => ?_
        · rw [List.any_cons, hb, Bool.false_or]
          exact p2
        · rw [List.any_cons, hb, Bool.true_or]
      · cases h
    | _ => unfold tyNames at h; cases h
theorem bIsi_s (hK : X.K = R.K) : ∃ r, CallR X (.builtin "isinstance") r ∧ SimC R r bIsi := ⟨_, call_isi.or call_isiQ, fun as xs H ι A Q E M r q => by
  unfold bIsi at q
  split at q
  · rename_i a n
    obtain ⟨x, y, rfl, r1, r2⟩ := vrs2 r
    split at q
    · rename_i t c e1 e2
      unfold VR at r2
      subst r2
      have e3 := BT.of_name e2
      refine .inl ⟨x, .ty n, .type t.name, .type n, t.sub c, rfl, .ty n, by rw [hK]; exact btOf_ok M e1 r1, ?_, q.here M mk_bl⟩
      rw [e3]
      exact kit_ty (kit_BT t c)
    · exact False.elim q
  · rename_i a cs
    obtain ⟨x, y, rfl, r1, r2⟩ := vrs2 r
    split at q
    · rename_i t ts e1 e2
      obtain ⟨p, vs, rfl, h1, v1⟩ := vr_tup r2
      obtain ⟨us, p1, p2⟩ := tyNames_ok (t := t) (K := X.K) e2 v1
      exact .inr ⟨x, p, vs, .type t.name, us, _, rfl, by rw [hK]; exact h1, p1, by rw [hK]; exact btOf_ok M e1 r1, p2, q.here M mk_bl⟩
    · exact False.elim q
  · exact False.elim q⟩
end
end Sh

set_option Elab.async false
set_option linter.all false
set_option maxRecDepth 100000
set_option maxHeartbeats 4000000
namespace Sh
open PySem L2 PyProof.Rows

/-! ### the static context -/
structure Cp where
  N : List Str
  sc : Scope
  k : Nat
  fnB : Str → Bool
  funs : List (Str × GF)
  cons : List (Str × AV)
def bltNames : List Str := ["len", "int", "abs", "min", "max", "list", "tuple", "isinstance", "bool", "str", "dict", "range"]
structure CxOk (R : Rc) (C : Cp) (X : Cx) (W : WX) : Prop where
  K : X.K = R.K
  w : X.w = R.w
  N : X.N = C.N
  sc : X.env.scope = C.sc
  kd : C.sc.kind = .function
  nd : C.N.Nodup
  calm : X.calm = true
  room : Room C.k X.A
  tk : Takes X W
  hp : PassesOwn (model X.prog X.w) X.A X.env X.xe
  fn : ∀ x, C.fnB x = true → X.fn x = true
  gd : GdOk R
  funs : ∀ x g, C.funs.lookup x = some g → ∃ f fd ps ds dvs, FunAt R X C.k x g f fd ps ds dvs
  cons : ∀ x v, C.cons.lookup x = some v → ∃ u y, X.mg x = some u ∧ RelV y u ∧ ∀ ι H, VR R ι H v y
  blt : ∀ x ∈ bltNames, X.mg x = none
theorem CxOk.hu {R : Rc} {C : Cp} {X : Cx} {W : WX} (o : CxOk R C X W) : X.A.units + 64 < cLine := o.room.units

/-! ### small tests upon the text -/
def isStar : Expr → Bool
  | .Starred _ _ => true
  | _ => false
def isComp : Expr → Bool
  | .ListComp .. => true
  | .SetComp .. => true
  | .DictComp .. => true
  | _ => false
def isSetD : Expr → Bool
  | .Set .. => true
  | _ => false
def isSl : Expr → Bool
  | .Slice .. => true
  | _ => false
def superish : Expr → Bool
  | .Call (.Name _ _) [] [] _ => true
  | _ => false
def slotOf (N : List Str) (x : Str) : Option Nat := N.findIdx? (fun y => decide (y = x))
def visB (sc : Scope) (x : Str) : Bool := match sc.names.lookup x with
  | some .local => true
  | some .cell => true
  | some .free => true
  | _ => false
def locB (C : Cp) (x : Str) : Bool := match C.sc.names.lookup x with
  | some .local => true
  | some .cell => C.fnB x
  | _ => false
def glB (sc : Scope) (x : Str) : Bool := decide (sc.names.lookup x = some .globalImplicit)
def okName (x : Str) : Bool := !(x == ("__debug__" : Str)) && !(x == ("__classdict__" : Str)) && !(x == ("__name__" : Str))
section
variable {R : Rc} {C : Cp} {X : Cx} {W : WX}
theorem slotOf_ok {N : List Str} {x : Str} {i : Nat} (h : slotOf N x = some i) : N[i]? = some x := by
  unfold slotOf at h
  rw [List.findIdx?_eq_some_iff_getElem] at h
  obtain ⟨hi, h1, _⟩ := h
  rw [List.getElem?_eq_getElem hi]
  exact congrArg some (of_decide_eq_true h1)
theorem visB_ok {sc : Scope} {x : Str} (h : visB sc x = true) : Vis sc x := by
  unfold visB at h
  split at h
  · exact .inl (by assumption)
  · exact .inr (.inl (by assumption))
  · exact .inr (.inr (by assumption))
  · cases h
theorem locB_ok (o : CxOk R C X W) {x : Str} (h : locB C x = true) : Loc X.env.scope x ∧ (X.fn x = true ∨ X.env.scope.names.lookup x = some .local) := by
  unfold locB at h
  rw [o.sc]
  split at h
  · rename_i e
    exact ⟨.inl e, .inr e⟩
  · rename_i e
    exact ⟨.inr e, .inl (o.fn x h)⟩
  · cases h
theorem glB_ok (o : CxOk R C X W) {x : Str} (h : glB C.sc x = true) : Gl X x := by
  show X.env.scope.names.lookup x = some .globalImplicit
  rw [o.sc]
  exact of_decide_eq_true h
theorem okName_ok {x : Str} (h : okName x = true) : (x == ("__debug__" : Str)) = false ∧ (x == ("__classdict__" : Str)) = false ∧ x ≠ "__name__" := by
  unfold okName at h
  simp only [Bool.and_eq_true, Bool.not_eq_true'] at h
  refine ⟨h.1.1, h.1.2, fun e => ?_⟩
  rw [e] at h
  simp at h
theorem star_cons {env : Env} {e : Expr} {es : List Expr} (h : isStar e = false) : starEach (e :: es) env = (false, eval e env) :: starEach es env := by
  cases e <;> first | rfl | cases h
theorem star_any {env : Env} {pos : Pos} : ∀ {es : List Expr}, es.all (fun e => !isStar e) = true → (backTo pos (starEach es env)).any (·.1) = false
  | [], _ => rfl
  | e :: es, h => by
    simp only [List.all_cons, Bool.and_eq_true, Bool.not_eq_true'] at h
    rw [star_cons h.1]
    show (false || (backTo pos (starEach es env)).any (·.1)) = false
    rw [star_any h.2]
    rfl
theorem star_all {env : Env} {pos : Pos} : ∀ {es : List Expr}, es.all (fun e => !isStar e) = true → (backTo pos (starEach es env)).all (fun x => !x.1) = true
  | [], _ => rfl
  | e :: es, h => by
    simp only [List.all_cons, Bool.and_eq_true, Bool.not_eq_true'] at h
    rw [star_cons h.1]
    show ((!false) && (backTo pos (starEach es env)).all (fun x => !x.1)) = true
    rw [star_all h.2]
    rfl
theorem swaps_no {e : Expr} {t : Option Expr} {l : Nat} {env : Env} (h : isComp e = false) : swapsWith e t l env = pure false := by
  cases e <;> first | rfl | cases h
theorem swaps_sub {e o i : Expr} {p : Pos} {l : Nat} {env : Env} : swapsWith e (some (.Subscript o i p)) l env = pure false := by
  cases e <;> rfl
theorem swaps_att {e o : Expr} {f : Str} {p : Pos} {l : Nat} {env : Env} : swapsWith e (some (.Attribute o f p)) l env = pure false := by
  cases e <;> rfl
theorem setIt_no {e : Expr} {env : Env} (h : isSetD e = false) (x : Value) : foldedSetIterable e env x = pure x := by
  cases e <;> first | rfl | cases h
theorem plainIx_no {e : Expr} (h : isSl e = false) : PlainIx e := fun o i => by
  cases e <;> first | rfl | cases h
theorem base_no {o : Expr} {m : Str} {env : Env} (h : superish o = false) : attributeBase o m env (eval o env) = eval o env := by
  cases o with
  | Call f args kws pos =>
    cases f with
    | Name id p =>
      cases args with
      | nil =>
        cases kws with
        | nil => cases h
        | cons => rfl
      | cons => rfl
    | _ => rfl
  | _ => rfl
end

/-! ### truth -/
def truA (a : AV) (A : AH) : Option Bool := match a with
  | .non => some false
  | .bl b => some b
  | .int i => some (i != 0)
  | .str x => if x.length ≤ sizeLine then some ((x.length : Int) != 0) else none
  | .tup xs => some (!xs.isEmpty)
  | a => match sq? a A with
    | some xs => some (!xs.isEmpty)
    | none => match a with
      | .ref n => (A.dct? n).map fun kvs => !kvs.isEmpty
      | _ => none
def tTruF (f : EF) : TF := fun ℓ A => (f ℓ A).bind fun a A => match truA a A with | some k => .ok k A | none => .bad
theorem VRs.isEmpty {R : Rc} {ι : List Addr} {H : Hp} {as : List AV} {xs : List V} (h : VRs R ι H as xs) : (!as.isEmpty) = !xs.isEmpty := by
  cases as with
  | nil => rw [vrs0 h]; rfl
  | cons a as => unfold VRs at h; obtain ⟨v, r, rfl, _⟩ := h; rfl
theorem KR.isEmpty {R : Rc} {ι : List Addr} {H : Hp} {as : List (Key × AV)} {xs : List (Key × V)} (h : KR R ι H as xs) : (!as.isEmpty) = !xs.isEmpty := by
  cases as with
  | nil => unfold KR at h; rw [h]; rfl
  | cons a as => obtain ⟨f, a⟩ := a; unfold KR at h; obtain ⟨v, r, rfl, _⟩ := h; rfl
theorem truA_ok {R : Rc} {ι : List Addr} {H : Hp} {A : AH} {a : AV} {x : V} {k : Bool} (M : Emb R ι A H) (h : truA a A = some k) (r : VR R ι H a x) : TruV R.K x H k := by
  unfold truA at h
  split at h
  · cases h; rw [vr_non r]; rfl
  · cases h; rw [vr_bl r]; rfl
  · cases h; rw [vr_int r]; rfl
  · split at h
    · rename_i hl
      cases h; rw [vr_str r]; exact ⟨hl, rfl⟩
    · cases h
  · cases h
    obtain ⟨p, vs, rfl, h1, v1⟩ := vr_tup r
    exact .inr (.inl ⟨vs, h1, v1.isEmpty⟩)
  · split at h
    · rename_i xs e
      cases h
      obtain ⟨p, vs, rfl, h1, v1⟩ := sq_rd M e r
      exact .inl ⟨vs, h1, v1.isEmpty⟩
    · split at h
      · rename_i n
        obtain ⟨p, hp, rfl⟩ := vr_ref r
        cases e : A.dct? _ with
        | none => rw [e] at h; cases h
        | some kvs =>
          rw [e] at h
          cases h
          obtain ⟨vs, h1, v1⟩ := dct_rd M e hp
          exact .inr (.inr ⟨vs, h1, v1.isEmpty⟩)
      · cases h
theorem sim_tru {R : Rc} {X : Cx} {W : WX} {ta : TE} {fa : EF} (hK : X.K = R.K) (ha : Sim R (VR R) W ta fa) : Sim R eqR W (fun σ H Q => ta σ H fun x H' => ∃ k, TruV X.K x H' k ∧ Q k H') (tTruF fa) := fun σ ℓ H ι A Q L M q =>
  ha σ ℓ H ι A _ L M (q.bind fun a A1 ι1 H1 x U1 M1 v1 q1 => by
    split at q1
    · rename_i k e
      exact ⟨k, by rw [hK]; exact truA_ok M1 e v1, q1.here M1 rfl⟩
    · exact False.elim q1)
def plainT : Expr → Bool
  | .UnaryOp .Not _ _ => false
  | .BoolOp .. => false
  | .IfExp .. => false
  | .Compare .. => false
  | _ => true
theorem plainT_ok {e : Expr} {env : Env} (h : plainT e = true) (whole : Sem Value) : isTrue e env whole = (do let v ← whole; standAt e.pos; holding [v] (truthy v)) := by
  cases e with
  | UnaryOp op x p => cases op <;> first | rfl | cases h
  | BoolOp => cases h
  | IfExp => cases h
  | Compare => cases h
  | _ => rfl

/-! ### chains -/
def eChain (g h : AV → AV → AH → Res AV) (f1 f2 f3 : EF) : EF := fun ℓ A => (f1 ℓ A).bind fun a A => (f2 ℓ A).bind fun b A => (g a b A).bind fun z A => match z with
  | .bl k => if k then (f3 ℓ A).bind fun c A => h b c A else .ok (.bl false) A
  | _ => .bad
theorem sim_chain {R : Rc} {W : WX} {r r' : R2} {g h : AV → AV → AH → Res AV} {ta tb tc : TE} {fa fb fc : EF} (hr : SimO R r g) (hr' : SimO R r' h) (ha : Sim R (VR R) W ta fa) (hb : Sim R (VR R) W tb fb) (hc : Sim R (VR R) W tc fc) :
    Sim R (VR R) W (tChain r r' ta tb tc) (eChain g h fa fb fc) := fun σ ℓ H ι A Q L M q =>
  ha σ ℓ H ι A _ L M (q.bind fun a1 A1 ι1 H1 x U1 M1 v1 q1 => hb σ ℓ H1 ι1 A1 _ (L.up U1) M1 (q1.bind fun a2 A2 ι2 H2 y U2 M2 v2 q2 => by
    refine hr _ _ _ _ _ _ _ _ (fun c d H' => W c d σ H') M2 (v1.up U2) v2 (q2.bind (rel := VR R) fun z A3 ι3 H3 w U3 M3 v3 q3 => ?_)
    cases z with
    | bl k =>
      refine ⟨k, vr_bl v3, ?_⟩
      cases k with
      | true => exact hc σ ℓ H3 ι3 A3 _ (((L.up U1).up U2).up U3) M3 (q3.bind fun a4 A4 ι4 H4 w4 U4 M4 v4 q4 => hr' _ _ _ _ _ _ _ _ _ M4 ((v2.up U3).up U4) v4 q4)
      | false => exact q3.here M3 mk_bl
    | _ => exact False.elim q3))

/-! ### the tables -/
def binF : Operator → Option (AV → AV → AH → Res AV)
  | .Add => some opAdd
  | .Sub => some opSub
  | .Mult => some opMul
  | .FloorDiv => some opFdiv
  | .Mod => some opMod
  | _ => none
def cmpF : CmpOp → AV → AV → AH → Res AV
  | .Eq => cEq
  | .NotEq => cNe
  | .Lt => cmpI fun i j => decide (i < j)
  | .LtE => cmpI fun i j => decide (i ≤ j)
  | .Gt => cmpI fun i j => decide (j < i)
  | .GtE => cmpI fun i j => decide (j ≤ i)
  | .Is => cIs
  | .IsNot => cIsNot
  | .In => cIn
  | .NotIn => cNotIn
def uNeg (a : AV) (A : AH) : Res AV := match a with
  | .int i => .ok (.int (-i)) A
  | _ => .bad
def bfun (x : Str) : Option (List AV → AH → Res AV) :=
  if x = "len" then some bLen else if x = "int" then some bInt else if x = "abs" then some bAbs else if x = "min" then some bMin else if x = "max" then some bMax
  else if x = "list" then some bList else if x = "tuple" then some bTuple else if x = "isinstance" then some bIsi else none
def btyp (x : Str) : Option String :=
  if x = "int" then some "int" else if x = "bool" then some "bool" else if x = "str" then some "str" else if x = "list" then some "list" else if x = "tuple" then some "tuple" else if x = "dict" then some "dict" else none
def bmeth (m : Str) : Option (RT × (AV → List AV → AH → Res AV)) :=
  if m = "append" then some (.list, mAppend) else if m = "extend" then some (.list, mExtend) else if m = "pop" then some (.list, mPop) else if m = "insert" then some (.list, mInsert) else if m = "index" then some (.list, mIndex) else none
def eCB (g : List AV → AH → Res AV) (f : AF) : EF := fun ℓ A => (f ℓ A).bind g
section
variable {R : Rc} {C : Cp} {X : Cx} {W : WX}
theorem binF_ok (o : CxOk R C X W) {op : Operator} {g : AV → AV → AH → Res AV} (h : binF op = some g) : OpS R X (binaryOp op) g := by
  cases op <;> simp only [binF] at h <;> cases h
  · exact op_add_s o.K
  · exact op_sub_s
  · exact op_mul_s
  · exact op_mod_s
  · exact op_fdiv_s
theorem cmpF_ok (o : CxOk R C X W) (op : CmpOp) : OpS R X (compareOp op) (cmpF op) := by
  cases op
  · exact op_eq_s o.K o.hu
  · exact op_ne_s o.K o.hu
  · exact op_lt_s
  · exact op_le_s
  · exact op_gt_s
  · exact op_ge_s
  · exact op_is_s
  · exact op_isNot_s
  · exact op_in_s o.K o.hu
  · exact op_notIn_s o.K o.hu
theorem uNeg_s : SimU R (rU fun i => .int (-i)) uNeg := fun a x H ι A Q E M r q => by
  cases a with
  | int i => exact ⟨i, vr_int r, q.here M mk_int⟩
  | _ => exact False.elim q
theorem sim_cb {r : List V → Hp → VK → Prop} {g : List AV → AH → Res AV} {t : TA} {f : AF} (hr : SimC R r g) (h : Sim R (VRs R) W t f) : Sim R (VR R) W (tCB r t) (eCB g f) := fun σ ℓ H ι A Q L M q =>
  h σ ℓ H ι A _ L M (q.bind fun as A1 ι1 H1 xs U1 M1 v1 q1 => hr _ _ _ _ _ _ _ M1 v1 q1)
theorem bfun_ok (o : CxOk R C X W) {x : Str} {g : List AV → AH → Res AV} (h : bfun x = some g) :
    (∃ id r, X.mg x = none ∧ bootBuiltins x = some (.builtin id) ∧ CallR X (.builtin id) r ∧ SimC R r g) ∨ (∃ T r, X.mg x = none ∧ bootBuiltins x = some (.type T) ∧ CallR X (.type T) r ∧ SimC R r g) := by
  unfold bfun at h
  split at h
  · rename_i e; subst e; cases h
    obtain ⟨r, h1, h2⟩ := bLen_s (R := R) (X := X) o.K
    exact .inl ⟨_, r, o.blt _ (by decide +kernel), by decide +kernel, h1, h2⟩
  split at h
  · rename_i e; subst e; cases h
    obtain ⟨r, h1, h2⟩ := bInt_s (R := R) (X := X)
    exact .inr ⟨_, r, o.blt _ (by decide +kernel), by decide +kernel, h1, h2⟩
  split at h
  · rename_i e; subst e; cases h
    obtain ⟨r, h1, h2⟩ := bAbs_s (R := R) (X := X)
    exact .inl ⟨_, r, o.blt _ (by decide +kernel), by decide +kernel, h1, h2⟩
  split at h
  · rename_i e; subst e; cases h
    obtain ⟨r, h1, h2⟩ := bMin_s (R := R) (X := X) o.K o.calm
    exact .inl ⟨_, r, o.blt _ (by decide +kernel), by decide +kernel, h1, h2⟩
  split at h
  · rename_i e; subst e; cases h
    obtain ⟨r, h1, h2⟩ := bMax_s (R := R) (X := X) o.K o.calm
    exact .inl ⟨_, r, o.blt _ (by decide +kernel), by decide +kernel, h1, h2⟩
  split at h
  · rename_i e; subst e; cases h
    obtain ⟨r, h1, h2⟩ := bList_s (R := R) (X := X) o.K
    exact .inr ⟨_, r, o.blt _ (by decide +kernel), by decide +kernel, h1, h2⟩
  split at h
  · rename_i e; subst e; cases h
    obtain ⟨r, h1, h2⟩ := bTuple_s (R := R) (X := X) o.K
    exact .inr ⟨_, r, o.blt _ (by decide +kernel), by decide +kernel, h1, h2⟩
  split at h
  · rename_i e; subst e; cases h
    obtain ⟨r, h1, h2⟩ := bIsi_s (R := R) (X := X) o.K
    exact .inl ⟨_, r, o.blt _ (by decide +kernel), by decide +kernel, h1, h2⟩
  · cases h
theorem btyp_ok (o : CxOk R C X W) {x : Str} {T : String} (h : btyp x = some T) : X.mg x = none ∧ bootBuiltins x = some (.type T) := by
  unfold btyp at h
  split at h
  · rename_i e; subst e; cases h; exact ⟨o.blt _ (by decide +kernel), by decide +kernel⟩
  split at h
  · rename_i e; subst e; cases h; exact ⟨o.blt _ (by decide +kernel), by decide +kernel⟩
  split at h
  · rename_i e; subst e; cases h; exact ⟨o.blt _ (by decide +kernel), by decide +kernel⟩
  split at h
  · rename_i e; subst e; cases h; exact ⟨o.blt _ (by decide +kernel), by decide +kernel⟩
  split at h
  · rename_i e; subst e; cases h; exact ⟨o.blt _ (by decide +kernel), by decide +kernel⟩
  split at h
  · rename_i e; subst e; cases h; exact ⟨o.blt _ (by decide +kernel), by decide +kernel⟩
  · cases h
theorem bmeth_ok (o : CxOk R C X W) {m : Str} {T : RT} {g : AV → List AV → AH → Res AV} (h : bmeth m = some (T, g)) :
    ∃ id r, PlainAttrs T.name ∧ Slot T.name m id ∧ typeOf (.builtin id) = pure (.type "method_descriptor") ∧ MtR X id r ∧ SimM R r g := by
  unfold bmeth at h
  split at h
  · rename_i e; subst e; cases h
    exact ⟨_, _, PySem.F.plainAttrs_list, PySem.F.slot_list_append, PySem.F.type_list_append, mt_append, mAppend_s⟩
  split at h
  · rename_i e; subst e; cases h
    exact ⟨_, _, PySem.F.plainAttrs_list, PySem.F.slot_list_extend, PySem.F.type_list_extend, mt_extend, mExtend_s⟩
  split at h
  · rename_i e; subst e; cases h
    exact ⟨_, _, PySem.F.plainAttrs_list, PySem.F.slot_list_pop, PySem.F.type_list_pop, MtR.or (X := X) mt_pop mt_popAt, mPop_s⟩
  split at h
  · rename_i e; subst e; cases h
    exact ⟨_, _, PySem.F.plainAttrs_list, PySem.F.slot_list_insert, PySem.F.type_list_insert, mt_insert, mInsert_s⟩
  split at h
  · rename_i e; subst e; cases h
    exact ⟨_, _, PySem.F.plainAttrs_list, PySem.F.slot_list_index, PySem.F.type_list_index, mt_index, mIndex_s o.K⟩
  · cases h
end
end Sh

set_option Elab.async false
set_option linter.all false
set_option maxRecDepth 100000
set_option maxHeartbeats 4000000
namespace Sh
open PySem L2 PyProof.Rows

/-! ### the readings of a text -/
def cArgs (rec : Expr → Option EF) : List Expr → Option AF
  | [] => some aNil
  | e :: es => if isStar e then none else match rec e, cArgs rec es with
    | some f, some g => some (aCons f g)
    | _, _ => none
def cBool (rec : Expr → Option EF) (op : BoolOp) : List Expr → Option EF
  | [] => none
  | [e] => rec e
  | e :: es => match rec e, cBool rec op es with
    | some f, some g => some (match op with | .And => eAndF f g | .Or => eOrF f g)
    | _, _ => none
def cBoolT (rec : Expr → Option TF) (op : BoolOp) : List Expr → Option TF
  | [] => none
  | [e] => rec e
  | e :: es => match rec e, cBoolT rec op es with
    | some f, some g => some (match op with | .And => tAndF f g | .Or => tOrF f g)
    | _, _ => none
def cPairs (rec : Expr → Option EF) : List (Option Expr) → List Expr → Option (List (EF × EF))
  | [], [] => some []
  | some k :: ks, v :: vs => match rec k, rec v, cPairs rec ks vs with
    | some f, some g, some r => some ((f, g) :: r)
    | _, _, _ => none
  | _, _ => none
def cOpt (rec : Expr → Option EF) : Option Expr → Option OF
  | none => some oNone
  | some e => (rec e).map oSome
def cConst : Const → Option AV
  | .int i => some (.int i)
  | .bool b => some (.bl b)
  | .none => some .non
  | .str x => some (.str x)
  | _ => none
def cName (C : Cp) (x : Str) : Option EF :=
  if okName x then
    if visB C.sc x then (slotOf C.N x).map eVar
    else if glB C.sc x then match C.cons.lookup x with
      | some v => some (eC v)
      | none => (btyp x).map fun T => eC (.ty T)
    else none
  else none
def cTarget (C : Cp) : Expr → Option (Nat × GF1)
  | .Name x _ => if locB C x then (slotOf C.N x).map fun i => (i, gNm i) else none
  | _ => none
def cIter (C : Cp) (rec : Expr → Option EF) (e : Expr) : Option IF := match e with
  | .Call (.Name x _) [a] [] _ => if x = "range" ∧ glB C.sc x = true then (if isStar a then none else (rec a).map fun f => iRange (aCons f aNil)) else (rec e).map iVal
  | .Call (.Name x _) [a, b] [] _ => if x = "range" ∧ glB C.sc x = true then (if isStar a || isStar b then none else match rec a, rec b with
      | some f, some g => some (iRange (aCons f (aCons g aNil)))
      | _, _ => none) else (rec e).map iVal
  | e => (rec e).map iVal
/-- the names of a comprehension's block that are its own, with their slots -/
def ownOf (N : List Str) (scope : Scope) : List (Str × Nat) := scope.names.filterMap fun y => match y.2 with
  | .local => (slotOf N y.1).map fun i => (y.1, i)
  | .cell => (slotOf N y.1).map fun i => (y.1, i)
  | _ => none
def Cp.blk (C : Cp) (scope : Scope) : Cp := { C with sc := relS scope C.sc, fnB := fun x => scope.names.lookup x == some .cell }
mutual
def compE : Nat → Cp → Expr → Option EF
  | 0, _, _ => none
  | n + 1, C, e => match e with
    | .Constant c _ _ => (cConst c).map eC
    | .Name x _ => cName C x
    | .BinOp a op b _ => match compE n C a, compE n C b, binF op with
      | some f, some g, some h => some (eOp h f g)
      | _, _, _ => none
    | .UnaryOp .USub a _ => (compE n C a).map (eUn uNeg)
    | .UnaryOp .Not a _ => (compE n C a).map eNotF
    | .BoolOp op es _ => cBool (compE n C) op es
    | .Compare a [op] [b] _ => if behindInMarks op b then none else match compE n C a, compE n C b with
      | some f, some g => some (eOp (cmpF op) f g)
      | _, _ => none
    | .Compare a [op, op'] [b, c] _ => if lastMarks [op, op'] [b, c] then none else match compE n C a, compE n C b, compE n C c with
      | some f, some g, some h => some (eChain (cmpF op) (cmpF op') f g h)
      | _, _, _ => none
    | .IfExp c a b _ => match compT n C c, compE n C a, compE n C b with
      | some t, some f, some g => some (eIf t f g)
      | _, _, _ => none
    | .List es _ => (cArgs (compE n C) es).map eLst
    | .Tuple es _ _ => (cArgs (compE n C) es).map eTup
    | .Dict ks vs _ => if ks.length = vs.length ∧ ks ≠ [] ∧ ks.length ≤ 15 then (cPairs (compE n C) ks vs).map eDct else none
    | .Subscript a b _ => match b with
      | .Slice lo hi none _ => match compE n C a, cOpt (compE n C) lo, cOpt (compE n C) hi with
        | some f, some g, some h => some (eSl f g h)
        | _, _, _ => none
      | b => if isSl b then none else match compE n C a, compE n C b with
        | some f, some g => some (eOp opIx f g)
        | _, _ => none
    | .Call (.Name x _) es [] _ => if okName x && glB C.sc x then match cArgs (compE n C) es with
        | some f => match C.funs.lookup x with
          | some g => some (eCall g f)
          | none => match es with
            | [] => none
            | _ => (bfun x).map fun g => eCB g f
        | none => none
      else none
    | .Call (.Attribute o m apos) es [] cpos => if superish o || !(apos.endLine == cpos.line) || !(decide (es.length < 29)) then none else match bmeth m, compE n C o, cArgs (compE n C) es with
      | some (T, g), some f, some h => some (eBM T g f h)
      | _, _, _ => none
    | .ListComp elt [⟨tg, iter, ifs, 0⟩] scope _ =>
      if isSetD iter then none
      else if blkC C.N C.sc scope (ownOf C.N scope) then match cIter C (compE n C) iter, cTarget (C.blk scope) tg, (match ifs with | [] => some tYesF | [c] => compT n (C.blk scope) c | _ => none), compE n (C.blk scope) elt with
        | some it, some (i, g), some t, some f => if i ∈ (ownOf C.N scope).map (·.2) then some (eLc it g t f ((ownOf C.N scope).map (·.2))) else none
        | _, _, _, _ => none
      else none
    | _ => none
def compT : Nat → Cp → Expr → Option TF
  | 0, _, _ => none
  | n + 1, C, e => match e with
    | .UnaryOp .Not a _ => (compT n C a).map tNotF
    | .BoolOp op es _ => cBoolT (compT n C) op es
    | .Compare a [op] [b] _ => if behindInMarks op b then none else match compE n C a, compE n C b with
      | some f, some g => some (tOfE (eOp (cmpF op) f g))
      | _, _ => none
    | .Compare a [op, op'] [b, c] _ => if lastMarks [op, op'] [b, c] then none else match compE n C a, compE n C b, compE n C c with
      | some f, some g, some h => some (tOfE (eChain (cmpF op) (cmpF op') f g h))
      | _, _, _ => none
    | e => if plainT e then (compE n C e).map tTruF else none
end
/-- is the value of an assignment to a name stored within the comprehension -/
def swapsB (C : Cp) (y : Str) (py pos : Pos) (scope : Scope) : Bool :=
  decide (C.sc.names.lookup y = some .local) && (py.line == pos.line) && !(scope.names.any fun (n, k) => n == y && (k == .local || k == .cell))
mutual
def compS : Nat → Cp → Stmt → Option SF
  | 0, _, _ => none
  | n + 1, C, st => match st with
    | .Expr e _ => if isComp e then none else (compE n C e).map sExpr
    | .Return none _ => some sRetN
    | .Return (some e) _ => (compE n C e).map sRet
    | .If c a b _ => match compT n C c, compSs n C a, compSs n C b with
      | some t, some f, some g => some (sIf t f g)
      | _, _, _ => none
    | .Assign [.Name x px] e pos => if locB C x then match slotOf C.N x, compE n C e with
        | some i, some f => if isComp e then (match e with
            | .ListComp _ [⟨_, _, _, 0⟩] scope lpos => if swapsB C x px lpos scope then some (sSet i f) else none
            | _ => none) else some (sSet i f)
        | _, _ => none
      else none
    | .Assign [.Subscript o i _] e _ => if isSl i then none else match compE n C e, compE n C o, compE n C i with
      | some f, some g, some h => some (sSub f g h)
      | _, _, _ => none
    | .For tg iter body [] _ => if isSetD iter then none else match cIter C (compE n C) iter, cTarget C tg, compSs n C body with
      | some it, some (_, g), some f => some (sFor it g f)
      | _, _, _ => none
    | .While c body [] _ => match compT n C c, compSs n C body with
      | some t, some f => some (sWhile t f)
      | _, _ => none
    | .Pass _ => some sNext
    | .Break _ => some sBrk
    | .Continue _ => some sCnt
    | _ => none
def compSs : Nat → Cp → List Stmt → Option SF
  | 0, _, _ => none
  | n + 1, C, sts => match sts with
    | [] => some sNext
    | [st] => compS n C st
    | st :: rest => match compS n C st, compSs n C rest with
      | some f, some g => some (sSeq f g)
      | _, _ => none
end
end Sh

set_option Elab.async false
set_option linter.all false
set_option maxRecDepth 100000
set_option maxHeartbeats 4000000
namespace Sh
open PySem L2 PyProof.Rows

section
variable {R : Rc}
/-- sound at every context that fits -/
def OkE (R : Rc) (C : Cp) (e : Expr) (f : EF) : Prop := ∀ X W, CxOk R C X W → SE R X W e f
def OkT (R : Rc) (C : Cp) (e : Expr) (f : TF) : Prop := ∀ X W, CxOk R C X W → ST R X W e f
variable {C : Cp} {rec : Expr → Option EF}
theorem cArgs_ok (hr : ∀ e f, rec e = some f → OkE R C e f) {X : Cx} {W : WX} (o : CxOk R C X W) : ∀ {es : List Expr} {f : AF}, cArgs rec es = some f → es.all (fun e => !isStar e) = true ∧ SA R X W es f
  | [], f, h => by
    unfold cArgs at h
    cases h
    exact ⟨rfl, _, pa_nil, sim_nil⟩
  | e :: es, f, h => by
    unfold cArgs at h
    split at h
    · cases h
    · rename_i hs
      have hs' : isStar e = false := by simpa using hs
      split at h
      · rename_i f1 f2 e1 e2
        cases h
        obtain ⟨t, h1, h2⟩ := hr e f1 e1 X W o
        obtain ⟨k, u, h3, h4⟩ := cArgs_ok hr o e2
        exact ⟨by rw [List.all_cons, k, hs']; rfl, _, pa_cons h1 h3 (star_cons hs'), sim_cons h2 h4⟩
      · cases h
theorem cBool_ok (hr : ∀ e f, rec e = some f → OkE R C e f) {X : Cx} {W : WX} (o : CxOk R C X W) {op : BoolOp} {pos : Pos} : ∀ {es : List Expr} {f : EF}, cBool rec op es = some f → SE R X W (.BoolOp op es pos) f
  | [], f, h => by unfold cBool at h; cases h
  | [e], f, h => by
    unfold cBool at h
    obtain ⟨t, h1, h2⟩ := hr e f h X W o
    exact ⟨t, pe_one h1, h2⟩
  | e :: e' :: es, f, h => by
    unfold cBool at h
    split at h
    · rename_i f1 f2 e1 e2
      cases h
      obtain ⟨t, h1, h2⟩ := hr e f1 e1 X W o
      obtain ⟨u, h3, h4⟩ := cBool_ok hr o (pos := pos) e2
      cases op with
      | And => exact ⟨_, pe_and h1 h3, sim_andV h2 h4⟩
      | Or => exact ⟨_, pe_or h1 h3, sim_orV h2 h4⟩
    · cases h
theorem cBoolT_ok {rec : Expr → Option TF} (hr : ∀ e f, rec e = some f → OkT R C e f) {X : Cx} {W : WX} (o : CxOk R C X W) {op : BoolOp} {pos : Pos} : ∀ {es : List Expr} {f : TF}, cBoolT rec op es = some f → ∃ t, PW X (.BoolOp op es pos) t ∧ Sim R eqR W t f
  | [], f, h => by unfold cBoolT at h; cases h
  | [e], f, h => by
    unfold cBoolT at h
    obtain ⟨t, h1, h2⟩ := hr e f h X W o
    cases op with
    | And => exact ⟨t, pw_and1 h1, h2⟩
    | Or => exact ⟨t, pw_or1 h1, h2⟩
  | e :: e' :: es, f, h => by
    unfold cBoolT at h
    split at h
    · rename_i f1 f2 e1 e2
      cases h
      obtain ⟨t, h1, h2⟩ := hr e f1 e1 X W o
      obtain ⟨u, h3, h4⟩ := cBoolT_ok hr o (pos := pos) e2
      cases op with
      | And => exact ⟨_, pw_and h1 h3, sim_and h2 h4⟩
      | Or => exact ⟨_, pw_or h1 h3, sim_or h2 h4⟩
    · cases h
theorem cPairs_ok (hr : ∀ e f, rec e = some f → OkE R C e f) {X : Cx} {W : WX} (o : CxOk R C X W) {pos : Pos} : ∀ {ks : List (Option Expr)} {vs : List Expr} {ps : List (EF × EF)}, cPairs rec ks vs = some ps →
    ks.all (·.isSome) = true ∧ ∃ ts, PPs X pos ks vs ts ∧ SPs R W ts ps
  | [], [], ps, h => by
    unfold cPairs at h
    cases h
    exact ⟨rfl, [], pps_nil, .nil⟩
  | some k :: ks, v :: vs, ps, h => by
    unfold cPairs at h
    split at h
    · rename_i f g r e1 e2 e3
      cases h
      obtain ⟨t, h1, h2⟩ := hr k f e1 X W o
      obtain ⟨u, h3, h4⟩ := hr v g e2 X W o
      obtain ⟨k5, ts, h5, h6⟩ := cPairs_ok hr o (pos := pos) e3
      exact ⟨by rw [List.all_cons, k5]; rfl, _, pps_cons h1 h3 h5, .cons h2 h4 h6⟩
    · cases h
  | none :: _, _ :: _, ps, h => by unfold cPairs at h; cases h
  | [], _ :: _, ps, h => by unfold cPairs at h; cases h
  | some _ :: _, [], ps, h => by unfold cPairs at h; cases h
  | none :: _, [], ps, h => by unfold cPairs at h; cases h
theorem cOpt_ok (hr : ∀ e f, rec e = some f → OkE R C e f) {X : Cx} {W : WX} (o : CxOk R C X W) {e : Option Expr} {f : OF} (h : cOpt rec e = some f) : SO R X W e f := by
  unfold cOpt at h
  cases e with
  | none => cases h; exact ⟨_, po_none, sim_oNone⟩
  | some e =>
    simp only at h
    cases e1 : rec e with
    | none => rw [e1] at h; cases h
    | some g =>
      rw [e1] at h
      cases h
      obtain ⟨t, h1, h2⟩ := hr e g e1 X W o
      exact ⟨_, po_some h1, sim_oSome h2⟩
theorem cConst_ok {X : Cx} {W : WX} {c : Const} {k : Nat} {pos : Pos} {v : AV} (h : cConst c = some v) : SE R X W (.Constant c k pos) (eC v) := by
  cases c <;> simp only [cConst] at h <;> cases h
  · exact ⟨_, pe_non, sim_c fun _ _ => mk_non⟩
  · exact ⟨_, pe_bl, sim_c fun _ _ => mk_bl⟩
  · exact ⟨_, pe_int, sim_c fun _ _ => mk_int⟩
  · exact ⟨_, pe_str, sim_c fun _ _ => mk_str⟩
theorem cName_ok {X : Cx} {W : WX} (o : CxOk R C X W) {x : Str} {pos : Pos} {f : EF} (h : cName C x = some f) : SE R X W (.Name x pos) f := by
  unfold cName at h
  split at h
  · rename_i hn
    obtain ⟨n1, n2, n3⟩ := okName_ok hn
    split at h
    · rename_i hv
      cases e : slotOf C.N x with
      | none => rw [e] at h; cases h
      | some i =>
        rw [e] at h
        cases h
        exact ⟨_, pe_var (by rw [o.N]; exact slotOf_ok e) (by rw [o.sc]; exact visB_ok hv) n1 n2, sim_var⟩
    · split at h
      · rename_i hg
        split at h
        · rename_i v e
          cases h
          obtain ⟨u, y, h1, h2, h3⟩ := o.cons x v e
          exact ⟨_, pe_glob (glB_ok o hg) h1 h2 n1, sim_c h3⟩
        · cases e : btyp x with
          | none => rw [e] at h; cases h
          | some T =>
            rw [e] at h
            cases h
            obtain ⟨h1, h2⟩ := btyp_ok o e
            exact ⟨_, pe_bltn (v := .ty T) (glB_ok o hg) h1 h2 rfl n3 n1, sim_c fun ι H => by unfold VR; rfl⟩
      · cases h
  · cases h
theorem cTarget_ok {X : Cx} {W : WX} (o : CxOk R C X W) {e : Expr} {i : Nat} {g : GF1} (h : cTarget C e = some (i, g)) : g = gNm i ∧ PG X e (gName i) := by
  unfold cTarget at h
  split at h
  · split at h
    · rename_i x p hl
      cases e : slotOf C.N x with
      | none => rw [e] at h; cases h
      | some j =>
        rw [e] at h
        cases h
        obtain ⟨h1, h2⟩ := locB_ok o hl
        exact ⟨rfl, pg_name (by rw [o.N]; exact o.nd) (by rw [o.N]; exact slotOf_ok e) h1 h2⟩
    · cases h
  · cases h
theorem iRange1_len {f : EF} : ∀ ℓ A as A', aCons f aNil ℓ A = .ok as A' → as.length = 1 := fun ℓ A as A' h => by
  unfold aCons aNil at h
  cases e : f ℓ A with
  | ok a A1 => rw [e] at h; cases h; rfl
  | _ => rw [e] at h; cases h
theorem iRange2_len {f g : EF} : ∀ ℓ A as A', aCons f (aCons g aNil) ℓ A = .ok as A' → as.length = 2 := fun ℓ A as A' h => by
  unfold aCons aNil at h
  cases e : f ℓ A with
  | ok a A1 =>
    rw [e] at h
    simp only [Res.bind] at h
    cases e2 : g ℓ A1 with
    | ok b A2 => rw [e2] at h; cases h; rfl
    | _ => rw [e2] at h; cases h
  | _ => rw [e] at h; cases h
theorem cIter_ok (hr : ∀ e f, rec e = some f → OkE R C e f) {X : Cx} {W : WX} (o : CxOk R C X W) {e tg : Expr} {f : IF} (h : cIter C rec e = some f) : SI R X W tg e f := by
  have viaVal : ∀ {e : Expr} {f : IF}, (rec e).map iVal = some f → SI R X W tg e f := fun {e f} h => by
    cases e1 : rec e with
    | none => rw [e1] at h; cases h
    | some g =>
      rw [e1] at h
      cases h
      obtain ⟨t, h1, h2⟩ := hr e g e1 X W o
      exact ⟨_, pi_val h1, sim_iVal o.K h2⟩
  unfold cIter at h
  split at h
  · rename_i x p a pos
    split at h
    · rename_i hx
      obtain ⟨rfl, hg⟩ := hx
      split at h
      · cases h
      · rename_i hs
        have hs' : isStar a = false := by simpa using hs
        cases e1 : rec a with
        | none => rw [e1] at h; cases h
        | some g =>
          rw [e1] at h
          cases h
          obtain ⟨t, h1, h2⟩ := hr a g e1 X W o
          exact ⟨_, pi_range1 (glB_ok o hg) (o.blt _ (by decide +kernel)) (pa_cons h1 pa_nil (star_cons hs')) (star_cons hs'), sim_iRange1 (sim_cons h2 sim_nil) iRange1_len⟩
    · exact viaVal h
  · rename_i x p a b pos
    split at h
    · rename_i hx
      obtain ⟨rfl, hg⟩ := hx
      split at h
      · cases h
      · rename_i hs
        simp only [Bool.or_eq_true, not_or, Bool.not_eq_true] at hs
        split at h
        · rename_i g1 g2 e1 e2
          cases h
          obtain ⟨t, h1, h2⟩ := hr a g1 e1 X W o
          obtain ⟨u, h3, h4⟩ := hr b g2 e2 X W o
          exact ⟨_, pi_range2 (glB_ok o hg) (o.blt _ (by decide +kernel)) (pa_cons h1 (pa_cons h3 pa_nil (star_cons hs.2)) (star_cons hs.1)) (by rw [star_cons hs.1, star_cons hs.2]; rfl) (star_cons hs.2), sim_iRange2 (sim_cons h2 (sim_cons h4 sim_nil)) iRange2_len⟩
        · cases h
    · exact viaVal h
  · exact viaVal h
/-- within a comprehension's block -/
theorem CxOk.blk {X : Cx} {W : WX} (o : CxOk R C X W) (s : Shared) (H : Hp) {scope : Scope} (hk : scope.kind = .function) (cl : List (Str × Addr)) (D : Addr) (fp : List Addr) : CxOk R (C.blk scope) (X.blk s H scope (compEnvC scope cl D X.env) fp) WF :=
  ⟨o.K, o.w, o.N, by show relS scope X.env.scope = relS scope C.sc; rw [o.sc], hk, o.nd, o.calm, o.room, takes0, PassesOwn.never, fun x h => h, o.gd, fun x g h => by
    obtain ⟨f, fd, ps, ds, dvs, F⟩ := o.funs x g h
    exact ⟨f, fd, ps, ds, dvs, F.mg, F.kp, F.ok, F.bi, F.vd, F.rd⟩, o.cons, o.blt⟩
end
end Sh

set_option Elab.async false
set_option linter.all false
set_option maxRecDepth 100000
set_option maxHeartbeats 8000000
namespace Sh
open PySem L2 PyProof.Rows

section
variable {R : Rc}
/-- the reading that a function itself is -/
def cRd {α β : Type} (R : Rc) (rel : List Addr → Hp → α → β → Prop) (W : WX) (f : LSt → AH → Res α) : L2.St → Hp → (β → Hp → Prop) → Prop := fun σ H Q =>
  ∃ ι A ℓ, LR R ι H ℓ σ ∧ Emb R ι A H ∧ Then R rel (f ℓ A) ι H Q (fun c d H' => W c d σ H')
theorem sim_cRd {α β : Type} {rel : List Addr → Hp → α → β → Prop} {W : WX} {f : LSt → AH → Res α} : Sim R rel W (cRd R rel W f) f := fun σ ℓ H ι A Q L M q => ⟨ι, A, ℓ, L, M, q⟩
theorem SE.canon {X : Cx} {W : WX} {e : Expr} {f : EF} (h : SE R X W e f) : PE X e (cRd R (VR R) W f) := by
  obtain ⟨t, h1, h2⟩ := h
  exact ⟨fun pins s σ H Q I ⟨ι, A, ℓ, L, M, q⟩ => h1.run pins s σ H Q I (h2 σ ℓ H ι A Q L M q)⟩
theorem ST.canon {X : Cx} {W : WX} {e : Expr} {f : TF} (h : ST R X W e f) : PT X e (cRd R eqR W f) := by
  obtain ⟨t, h1, h2⟩ := h
  exact ⟨fun pins s σ H Q I ⟨ι, A, ℓ, L, M, q⟩ => h1.run pins s σ H Q I (h2 σ ℓ H ι A Q L M q)⟩
theorem sim_yes {W : WX} : Sim R eqR W tYes tYesF := fun σ ℓ H ι A Q L M q => q.here M rfl
theorem comp_ok : ∀ n : Nat, (∀ C e f, compE n C e = some f → OkE R C e f) ∧ (∀ C e f, compT n C e = some f → OkT R C e f)
  | 0 => ⟨fun C e f h => (by unfold compE at h; cases h), fun C e f h => (by unfold compT at h; cases h)⟩
  | n + 1 => by
    obtain ⟨hE, hT⟩ := comp_ok n
    refine ⟨fun C e f h X W o => ?_, fun C e f h X W o => ?_⟩
    · unfold compE at h
      split at h
      · -- constants
        rename_i c k pos
        cases e1 : cConst c with
        | none => rw [e1] at h; cases h
        | some v => rw [e1] at h; cases h; exact cConst_ok e1
      · exact cName_ok o h
      · split at h
        · rename_i f1 f2 g e1 e2 e3
          cases h
          obtain ⟨t, h1, h2⟩ := hE C _ f1 e1 X W o
          obtain ⟨u, h3, h4⟩ := hE C _ f2 e2 X W o
          obtain ⟨r, h5, h6⟩ := binF_ok o e3
          exact ⟨_, pe_op h5 h1 h3, sim_op h2 h4 h6⟩
        · cases h
      · rename_i a pos
        cases e1 : compE n C a with
        | none => rw [e1] at h; cases h
        | some g =>
          rw [e1] at h
          cases h
          obtain ⟨t, h1, h2⟩ := hE C _ g e1 X W o
          exact ⟨_, pe_un un_neg h1, sim_un h2 uNeg_s⟩
      · rename_i a pos
        cases e1 : compE n C a with
        | none => rw [e1] at h; cases h
        | some g =>
          rw [e1] at h
          cases h
          obtain ⟨t, h1, h2⟩ := hE C _ g e1 X W o
          exact ⟨_, pe_not h1, sim_notV h2⟩
      · exact cBool_ok (hE C) o h
      · -- one comparison
        split at h
        · cases h
        · rename_i a op b pos hm
          split at h
          · rename_i f1 f2 e1 e2
            cases h
            obtain ⟨t, h1, h2⟩ := hE C _ f1 e1 X W o
            obtain ⟨u, h3, h4⟩ := hE C _ f2 e2 X W o
            obtain ⟨r, h5, h6⟩ := cmpF_ok o op
            exact ⟨_, pe_cmpR h5 h1 h3 (by simpa using hm), sim_op h2 h4 h6⟩
          · cases h
      · -- a chain
        split at h
        · cases h
        · rename_i a op op' b c pos hm
          split at h
          · rename_i f1 f2 f3 e1 e2 e3
            cases h
            obtain ⟨t, h1, h2⟩ := hE C _ f1 e1 X W o
            obtain ⟨u, h3, h4⟩ := hE C _ f2 e2 X W o
            obtain ⟨v, h7, h8⟩ := hE C _ f3 e3 X W o
            obtain ⟨r, h5, h6⟩ := cmpF_ok o op
            obtain ⟨r', h9, h10⟩ := cmpF_ok o op'
            exact ⟨_, pe_chain h5 h9 h1 h3 h7 (by simpa using hm), sim_chain h6 h10 h2 h4 h8⟩
          · cases h
      · split at h
        · rename_i t f1 f2 e1 e2 e3
          cases h
          obtain ⟨tt, h1, h2⟩ := hT C _ t e1 X W o
          obtain ⟨u, h3, h4⟩ := hE C _ f1 e2 X W o
          obtain ⟨v, h5, h6⟩ := hE C _ f2 e3 X W o
          exact ⟨_, pe_ifExp h1 h3 h5, sim_if h2 h4 h6⟩
        · cases h
      · rename_i es pos
        cases e1 : cArgs (compE n C) es with
        | none => rw [e1] at h; cases h
        | some g =>
          rw [e1] at h
          cases h
          obtain ⟨_, t, h1, h2⟩ := cArgs_ok (hE C) o e1
          exact ⟨_, pe_lst h1, sim_lst h2⟩
      · rename_i es k pos
        cases e1 : cArgs (compE n C) es with
        | none => rw [e1] at h; cases h
        | some g =>
          rw [e1] at h
          cases h
          obtain ⟨_, t, h1, h2⟩ := cArgs_ok (hE C) o e1
          exact ⟨_, pe_tup h1, sim_tup h2⟩
      · -- a dict
        rename_i ks vs pos
        split at h
        · rename_i hk
          cases e1 : cPairs (compE n C) ks vs with
          | none => rw [e1] at h; cases h
          | some ps =>
            rw [e1] at h
            cases h
            obtain ⟨ha, ts, h1, h2⟩ := cPairs_ok (hE C) o (pos := pos) e1
            exact ⟨_, pe_disp h1 ha hk.1 hk.2.1 hk.2.2, sim_dct h2⟩
        · cases h
      · -- subscripts
        rename_i a b pos
        split at h
        · split at h
          · rename_i lo hi p2 f1 f2 f3 e1 e2 e3
            cases h
            obtain ⟨t, h1, h2⟩ := hE C _ f1 e1 X W o
            obtain ⟨u, h3, h4⟩ := cOpt_ok (hE C) o e2
            obtain ⟨v, h5, h6⟩ := cOpt_ok (hE C) o e3
            exact ⟨_, pe_slice sl_all h1 h3 h5, sim_sl (simSl o.K) h2 h4 h6⟩
          · cases h
        · split at h
          · cases h
          · rename_i hs
            split at h
            · rename_i f1 f2 e1 e2
              cases h
              obtain ⟨t, h1, h2⟩ := hE C _ f1 e1 X W o
              obtain ⟨u, h3, h4⟩ := hE C _ f2 e2 X W o
              exact ⟨_, pe_ix (ix_all o.hu) h1 h3 (plainIx_no (by simpa using hs)), sim_op h2 h4 (simIx o.K o.w o.gd)⟩
            · cases h
      · -- a call of a name
        rename_i x p es pos
        split at h
        · rename_i hx
          rw [Bool.and_eq_true] at hx
          obtain ⟨n1, n2, n3⟩ := okName_ok hx.1
          have hg := glB_ok o hx.2
          split at h
          · rename_i fa e1
            obtain ⟨hs, t, h1, h2⟩ := cArgs_ok (hE C) o e1
            split at h
            · rename_i g e2
              cases h
              obtain ⟨fa, fd, ps, ds, dvs, F⟩ := o.funs x g e2
              cases es with
              | nil =>
                unfold cArgs at e1
                cases e1
                exact ⟨_, pe_callD0 F.ok o.room hg F.mg F.kp F.bi F.vd o.tk n1, sim_call F sim_nil⟩
              | cons e es =>
                rw [List.all_cons, Bool.and_eq_true, Bool.not_eq_true'] at hs
                exact ⟨_, pe_callD F.ok o.room hg F.mg F.kp F.bi F.vd o.tk h1 n1 (star_cons hs.1) (star_any hs.2), sim_call F h2⟩
            · split at h
              · cases h
              · cases e2 : bfun x with
                | none => rw [e2] at h; cases h
                | some g =>
                  rw [e2] at h
                  cases h
                  cases es with
                  | nil => rename_i hne; exact absurd rfl (hne)
                  | cons e es =>
                    rw [List.all_cons, Bool.and_eq_true, Bool.not_eq_true'] at hs
                    rcases bfun_ok o e2 with ⟨id, r, k1, k2, k3, k4⟩ | ⟨T, r, k1, k2, k3, k4⟩
                    · exact ⟨_, pe_callB k3 hg k1 k2 h1 n3 n1 (star_cons hs.1) (star_any hs.2), sim_cb k4 h2⟩
                    · exact ⟨_, pe_callTy k3 hg k1 k2 h1 n3 n1 (star_cons hs.1) (star_any hs.2), sim_cb k4 h2⟩
          · cases h
        · cases h
      · -- a method of a built-in type
        rename_i ob m apos es cpos
        split at h
        · cases h
        · rename_i hc
          simp only [Bool.or_eq_true, not_or, Bool.not_eq_true, Bool.not_eq_true', Bool.not_eq_false, decide_eq_true_eq] at hc
          split at h
          · rename_i T g f1 f2 e1 e2 e3
            cases h
            obtain ⟨id, r, k1, k2, k3, k4, k5⟩ := bmeth_ok o e1
            obtain ⟨t, h1, h2⟩ := hE C ob f1 e2 X W o
            obtain ⟨hs, u, h3, h4⟩ := cArgs_ok (hE C) o e3
            cases es with
            | nil =>
              unfold cArgs at e3
              cases e3
              refine ⟨_, pe_bm0 k1 k2 k3 k4 h1 (base_no hc.1.1) hc.1.2, ?_⟩
              rw [o.K]
              exact sim_bm0 k5 h2
            | cons e es =>
              have hs0 := hs
              rw [List.all_cons, Bool.and_eq_true, Bool.not_eq_true'] at hs
              refine ⟨_, pe_bm k1 k2 k3 k4 h1 h3 (base_no hc.1.1) ?_ hc.1.2 (star_cons hs.1) (star_any hs.2), ?_⟩
              · rw [star_all hs0]
                have : (e :: es).length < 29 := hc.2
                show (true && true && decide ((e :: es).length + 0 + 0 < 30)) = true
                simp only [Bool.and_self, Bool.true_and, decide_eq_true_eq]
                omega
              · rw [o.K]
                exact sim_bm k5 h2 h4
          · cases h
      · -- a comprehension
        rename_i elt tg iter ifs scope pos
        split at h
        · cases h
        · rename_i hs
          split at h
          · rename_i hb
            have ok := blkOk_by hb
            have hk : scope.kind = .function := ok.kind
            split at h
            · rename_i it i g t fe e1 e2 e3 e4
              split at h
              · rename_i hi
                cases h
                obtain ⟨ti, h1, h2⟩ := cIter_ok (hE C) o (tg := tg) e1
                obtain ⟨tt, ht1, ht2⟩ : ∃ tt, (∀ (s : Shared) (H : Hp) (D : Addr) (cl : List (Str × Addr)) (fp : List Addr), PTs (X.blk s H scope (compEnvC scope cl D X.env) fp) ifs tt) ∧ Sim R eqR WF tt t := by
                  split at e3
                  · cases e3
                    exact ⟨_, fun _ _ _ _ _ => pts_nil, sim_yes⟩
                  · exact ⟨_, fun s H D cl fp => pts_one (hT _ _ t e3 _ _ (o.blk s H hk cl D fp)).canon, sim_cRd⟩
                  · cases e3
                have hg0 := fun s H D cl fp => cTarget_ok (o.blk s H hk cl D fp) e2
                obtain ⟨rfl, _⟩ := hg0 X.s_0 X.H_0 0 [] []
                exact ⟨_, pe_lc o.calm (by rw [o.N]; exact o.nd) h1 (by rw [o.N, o.sc]; exact ok) (fun s H D cl fp => (hg0 s H D cl fp).2) ht1 (fun s H D cl fp => (hE _ _ fe e4 _ _ (o.blk s H hk cl D fp)).canon) (setIt_no (by simpa using hs)), sim_lc h2 (simGW_name hi) ht2 sim_cRd⟩
              · cases h
            · cases h
          · cases h
      · cases h
    · unfold compT at h
      split at h
      · rename_i a pos
        cases e1 : compT n C a with
        | none => rw [e1] at h; cases h
        | some g =>
          rw [e1] at h
          cases h
          obtain ⟨t, h1, h2⟩ := hT C _ g e1 X W o
          exact ⟨_, pt_not h1, sim_not h2⟩
      · obtain ⟨t, h1, h2⟩ := cBoolT_ok (hT C) o h
        exact ⟨t, h1.pt, h2⟩
      · split at h
        · cases h
        · rename_i a op b pos hm
          split at h
          · rename_i f1 f2 e1 e2
            cases h
            obtain ⟨t, h1, h2⟩ := hE C _ f1 e1 X W o
            obtain ⟨u, h3, h4⟩ := hE C _ f2 e2 X W o
            obtain ⟨r, h5, h6⟩ := cmpF_ok o op
            exact ⟨_, pt_cmpR h5 h1 h3 (by simpa using hm), sim_test (sim_op h2 h4 h6)⟩
          · cases h
      · split at h
        · cases h
        · rename_i a op op' b c pos hm
          split at h
          · rename_i f1 f2 f3 e1 e2 e3
            cases h
            obtain ⟨t, h1, h2⟩ := hE C _ f1 e1 X W o
            obtain ⟨u, h3, h4⟩ := hE C _ f2 e2 X W o
            obtain ⟨v, h7, h8⟩ := hE C _ f3 e3 X W o
            obtain ⟨r, h5, h6⟩ := cmpF_ok o op
            obtain ⟨r', h9, h10⟩ := cmpF_ok o op'
            exact ⟨_, pt_chain h5 h9 h1 h3 h7 (by simpa using hm), sim_test (sim_chain h6 h10 h2 h4 h8)⟩
          · cases h
      · split at h
        · rename_i hp
          cases e1 : compE n C _ with
          | none => rw [e1] at h; cases h
          | some g =>
            rw [e1] at h
            cases h
            obtain ⟨t, h1, h2⟩ := hE C _ g e1 X W o
            exact ⟨_, pt_truth h1 (plainT_ok hp), sim_tru o.K h2⟩
        · cases h
end
end Sh

set_option Elab.async false
set_option linter.all false
set_option maxRecDepth 100000
set_option maxHeartbeats 8000000
namespace Sh
open PySem L2 PyProof.Rows

section
variable {R : Rc}
/-- a comprehension's reading, as a value and as the value of an assignment to a local name -/
theorem lc_asg : ∀ {n : Nat} {C : Cp} {elt tg iter : Expr} {ifs : List Expr} {scope : Scope} {pos : Pos} {f : EF}, compE n C (.ListComp elt [⟨tg, iter, ifs, 0⟩] scope pos) = some f → ∀ {X : Cx} {W : WX}, CxOk R C X W →
    ∀ {i : Nat} {y : Str} {py spos : Pos}, X.N[i]? = some y → X.env.scope.names.lookup y = some .local → swapsWith (.ListComp elt [⟨tg, iter, ifs, 0⟩] scope pos) (some (.Name y py)) spos.line X.env = pure true →
    SS R X W (.Assign [.Name y py] (.ListComp elt [⟨tg, iter, ifs, 0⟩] scope pos) spos) (sSet i f)
  | 0, C, elt, tg, iter, ifs, scope, pos, f, h, X, W, o, j, y, py, spos, hj, hl, hsw => by unfold compE at h; cases h
  | n + 1, C, elt, tg, iter, ifs, scope, pos, f, h, X, W, o, j, y, py, spos, hj, hl, hsw => by
    obtain ⟨hE, hT⟩ := comp_ok (R := R) n
    unfold compE at h
    simp only at h
    split at h
    · cases h
    · rename_i hs
      split at h
      · rename_i hb
        have ok := blkOk_by hb
        have hk : scope.kind = .function := ok.kind
        split at h
        · rename_i it i g t fe e1 e2 e3 e4
          split at h
          · rename_i hi
            cases h
            obtain ⟨ti, h1, h2⟩ := cIter_ok (hE C) o (tg := tg) e1
            obtain ⟨tt, ht1, ht2⟩ : ∃ tt, (∀ (s : Shared) (H : Hp) (D : Addr) (cl : List (Str × Addr)) (fp : List Addr), PTs (X.blk s H scope (compEnvC scope cl D X.env) fp) ifs tt) ∧ Sim R eqR WF tt t := by
              split at e3
              · cases e3
                exact ⟨_, fun _ _ _ _ _ => pts_nil, sim_yes⟩
              · exact ⟨_, fun s H D cl fp => pts_one (hT _ _ t e3 _ _ (o.blk s H hk cl D fp)).canon, sim_cRd⟩
              · cases e3
            have hg0 := fun s H D cl fp => cTarget_ok (o.blk s H hk cl D fp) e2
            obtain ⟨rfl, _⟩ := hg0 X.s_0 X.H_0 0 [] []
            exact ⟨_, ps_setLc o.calm (by rw [o.N]; exact o.nd) hj hl hsw h1 (by rw [o.N, o.sc]; exact ok) (fun s H D cl fp => (hg0 s H D cl fp).2) ht1 (fun s H D cl fp => (hE _ _ fe e4 _ _ (o.blk s H hk cl D fp)).canon) (setIt_no (by simpa using hs)), simS_set (sim_lc h2 (simGW_name hi) ht2 sim_cRd)⟩
          · cases h
        · cases h
      · cases h
theorem swapsB_ok {C : Cp} {X : Cx} {W : WX} (o : CxOk R C X W) {y : Str} {py pos : Pos} {scope : Scope} {elt : Expr} {gs : List Comprehension} {l : Nat} (h : swapsB C y py pos scope = true) :
    X.env.scope.names.lookup y = some .local ∧ swapsWith (.ListComp elt gs scope pos) (some (.Name y py)) l X.env = pure true := by
  unfold swapsB at h
  simp only [Bool.and_eq_true, Bool.not_eq_true', decide_eq_true_eq] at h
  have hl : X.env.scope.names.lookup y = some .local := by rw [o.sc]; exact h.1.1
  exact ⟨hl, sw_true (by rw [o.sc]; exact o.kd) hl h.1.2 h.2⟩
theorem swapsSole_sub {e o i : Expr} {p : Pos} {l : Nat} {env : Env} : swapsWithSole [.Subscript o i p] e l env = pure false := swaps_sub (o := o) (i := i) (p := p) (l := l) (env := env)
theorem asg_sub {o i : Expr} {pos : Pos} {env : Env} (h : isSl i = false) (v : Value) : assign (.Subscript o i pos) env v = (do
      let ov ← holding [v] (eval o env)
      let iv ← holding [v, ov] (eval i env)
      standAt pos
      holding [v, ov, iv] (setItem ov iv v)
      release [v, ov, iv] []) := by
  cases i <;> first | rfl | cases h
theorem compS_ok : ∀ n : Nat, (∀ C st f, compS n C st = some f → ∀ X W, CxOk R C X W → SS R X W st f) ∧ (∀ C st f, compSs n C st = some f → ∀ X W, CxOk R C X W → SSs R X W st f)
  | 0 => ⟨fun C e f h => (by unfold compS at h; cases h), fun C e f h => (by unfold compSs at h; cases h)⟩
  | n + 1 => by
    obtain ⟨hS, hSs⟩ := compS_ok n
    obtain ⟨hE, hT⟩ := comp_ok (R := R) n
    refine ⟨fun C st f h X W o => ?_, fun C st f h X W o => ?_⟩
    · unfold compS at h
      split at h
      · rename_i e pos
        split at h
        · cases h
        · rename_i hc
          cases e1 : compE n C e with
          | none => rw [e1] at h; cases h
          | some g =>
            rw [e1] at h
            cases h
            obtain ⟨t, h1, h2⟩ := hE C _ g e1 X W o
            exact ⟨_, ps_expr h1 (swaps_no (by simpa using hc)), simS_expr h2⟩
      · cases h
        exact ⟨_, ps_retN, simS_retN⟩
      · rename_i e pos
        cases e1 : compE n C e with
        | none => rw [e1] at h; cases h
        | some g =>
          rw [e1] at h
          cases h
          obtain ⟨t, h1, h2⟩ := hE C _ g e1 X W o
          exact ⟨_, ps_ret h1, simS_ret h2⟩
      · split at h
        · rename_i t f1 f2 e1 e2 e3
          cases h
          obtain ⟨tt, h1, h2⟩ := hT C _ t e1 X W o
          obtain ⟨u, h3, h4⟩ := hSs C _ f1 e2 X W o
          obtain ⟨v, h5, h6⟩ := hSs C _ f2 e3 X W o
          exact ⟨_, ps_if h1 h3 h5, simS_if h2 h4 h6⟩
        · cases h
      · -- a name
        rename_i x px e pos
        split at h
        · rename_i hl
          obtain ⟨l1, l2⟩ := locB_ok o hl
          split at h
          · rename_i i g e1 e2
            have hi : X.N[i]? = some x := by rw [o.N]; exact slotOf_ok e1
            have hN : X.N.Nodup := by rw [o.N]; exact o.nd
            split at h
            · split at h
              · split at h
                · rename_i hsw
                  cases h
                  obtain ⟨q1, q2⟩ := swapsB_ok o hsw
                  exact lc_asg e2 o hi q1 q2
                · cases h
              · cases h
            · rename_i hc
              cases h
              obtain ⟨t, h1, h2⟩ := hE C _ g e2 X W o
              exact ⟨_, ps_set hN hi l1 h1 (swaps_no (by simpa using hc)) l2, simS_set h2⟩
          · cases h
        · cases h
      · -- o[i] = e
        split at h
        · cases h
        · rename_i hs
          split at h
          · rename_i f1 f2 f3 e1 e2 e3
            cases h
            obtain ⟨t, h1, h2⟩ := hE C _ f1 e1 X W o
            obtain ⟨u, h3, h4⟩ := hE C _ f2 e2 X W o
            obtain ⟨v, h5, h6⟩ := hE C _ f3 e3 X W o
            exact ⟨_, ps_asg h1 (pg_sub h3 h5 (pset_e o.hu) (asg_sub (by simpa using hs))) swapsSole_sub, simS_sub h2 h4 h6⟩
          · cases h
      · split at h
        · cases h
        · rename_i hs
          split at h
          · rename_i it i g f1 e1 e2 e3
            cases h
            obtain ⟨ti, h1, h2⟩ := cIter_ok (hE C) o e1
            obtain ⟨rfl, h3⟩ := cTarget_ok o e2
            obtain ⟨v, h5, h6⟩ := hSs C _ f1 e3 X W o
            exact ⟨_, ps_for o.hp o.calm h1 h3 h5 (setIt_no (by simpa using hs)), simS_for h2 simG_name h6⟩
          · cases h
      · split at h
        · rename_i t f1 e1 e2
          cases h
          obtain ⟨tt, h1, h2⟩ := hT C _ t e1 X W o
          obtain ⟨v, h5, h6⟩ := hSs C _ f1 e2 X W o
          exact ⟨_, ps_while o.hp h1 h5, simS_while h2 h6⟩
        · cases h
      · cases h; exact ⟨_, ps_pass, simS_next⟩
      · cases h; exact ⟨_, ps_break, simS_brk⟩
      · cases h; exact ⟨_, ps_continue, simS_cnt⟩
      · cases h
    · unfold compSs at h
      split at h
      · cases h; exact ⟨_, pss_nil, simS_next⟩
      · obtain ⟨t, h1, h2⟩ := hS C _ f h X W o
        exact ⟨_, pss_one h1, h2⟩
      · split at h
        · rename_i f1 f2 e1 e2
          cases h
          obtain ⟨t, h1, h2⟩ := hS C _ f1 e1 X W o
          obtain ⟨u, h3, h4⟩ := hSs C _ f2 e2 X W o
          exact ⟨_, pss_cons h1 h3, simS_seq h2 h4⟩
        · cases h
end

/-! ### a def -/
def runFn (body : SF) (nN : Nat) : Fn := fun as A => match body (as.map some ++ List.replicate (nN - as.length) none) A with
  | .nx _ A' => .ok .non A'
  | .rt v A' => .ok v A'
  | .exc c fs _ A' => .exc c fs A'
  | _ => .bad
theorem LR.start {R : Rc} {ι : List Addr} {H : Hp} {N : List Str} : ∀ {as : List AV} {vs : List V}, VRs R ι H as vs → LR R ι H (as.map some ++ List.replicate (N.length - as.length) none) (L2.start N vs) := fun {as vs} r => by
  refine ⟨by unfold L2.start; rw [List.length_append, List.length_append, List.length_map, List.length_map, List.length_replicate, List.length_replicate, r.length], fun i v e => ?_⟩
  have hi : i < as.length := by
    by_cases hi : i < as.length
    · exact hi
    · rw [List.getElem?_append_right (by simpa using hi), List.getElem?_replicate] at e
      split at e <;> cases e
  rw [List.getElem?_append_left (by simpa using hi), List.getElem?_map] at e
  cases e1 : as[i]? with
  | none => rw [e1] at e; cases e
  | some a =>
    rw [e1] at e
    cases e
    obtain ⟨x, e2, r2⟩ := r.get e1
    refine ⟨x, ?_, r2⟩
    unfold L2.start
    rw [List.getElem?_append_left (by rw [List.length_map, ← r.length]; exact hi), List.getElem?_map, e2]
    rfl
/-- what a module's table says of the names, over a base -/
structure TabOk (R : Rc) (P : Program) (mg : Str → Option Value) (base : Heap) (k : Nat) (funs : List (Str × GF)) (cons : List (Str × AV)) : Prop where
  gd : GdOk R
  funs : ∀ x g, funs.lookup x = some g → ∃ f fd ps ds dvs, mg x = some (.ref f) ∧ PySem.W.keepIn R.K (.ref f) = true ∧ FnOk P R.w R.K mg base (L2.CX P R.w) k f fd ps (SpOf R g.fn g.np) ∧ (∀ j, Binds R.K fd ps (ds.drop j)) ∧ Vals dvs ds ∧ ∀ ι H, VRs R ι H g.dv dvs
  cons : ∀ x v, cons.lookup x = some v → ∃ u y, mg x = some u ∧ RelV y u ∧ ∀ ι H, VR R ι H v y
  blt : ∀ x ∈ bltNames, mg x = none
def cpOf (N : List Str) (sc : Scope) (k : Nat) (funs : List (Str × GF)) (cons : List (Str × AV)) : Cp := ⟨N, sc, k, fun _ => true, funs, cons⟩
theorem fn_ok {R : Rc} {P : Program} {mg : Str → Option Value} {base : Heap} {k : Nat} {funs : List (Str × GF)} {cons : List (Str × AV)} (T : TabOk R P mg base k funs cons)
    {x qual : Str} {st : Stmt} {f : Addr} {fd : FuncData} {N ps : List Str} {n : Nat} {body : SF} (F : Fun R.K x qual st f fd) (S : FnScope N ps (defScope st)) (hc : compSs n (cpOf N (defScope st) k funs cons) (defBody st) = some body) :
    FnOk P R.w R.K mg base (L2.CX P R.w) (k + 1) f fd ps (SpOf R (runFn body N.length) ps.length) := by
  refine F.okX S (fun vs H Q E h => h.len) fun cdv A outer s H vs Q E hr h => ?_
  obtain ⟨ι, A0, as, M, r, hl, q⟩ := h
  have o : CxOk R (cpOf N (defScope st) k funs cons) (cxOf (L2.CX P R.w) P R.w R.K mg base N qual (defScope st) f cdv A outer s H E) (fun cls d _ H => E cls d H) :=
    ⟨rfl, rfl, rfl, rfl, S.kind, S.nd, rfl, hr, takes_of rfl rfl rfl rfl, passes_of rfl, fun _ _ => rfl, T.gd, fun y g h => by
      obtain ⟨f', fd', ps', ds, dvs, h1, h2, h3, h4, h5, h6⟩ := T.funs y g h
      exact ⟨f', fd', ps', ds, dvs, h1, h2, h3, h4, h5, h6⟩, T.cons, T.blt⟩
  obtain ⟨t, h1, h2⟩ := (compS_ok (R := R) n).2 _ _ body hc _ _ o
  refine ⟨t, h1, h2 _ _ (as.map some ++ List.replicate (N.length - as.length) none) H ι A0 (LR.start r) M ?_⟩
  unfold runFn at q
  cases e : body (as.map some ++ List.replicate (N.length - as.length) none) A0 with
  | nx ℓ' A' => rw [e] at q; exact fun ι' H' σ' U' M' _ => q ι' H' .non U' M' mk_non
  | rt v A' => rw [e] at q; exact fun ι' H' x' U' M' r' => q ι' H' x' U' M' r'
  | bk ℓ' A' => rw [e] at q; exact False.elim q
  | ct ℓ' A' => rw [e] at q; exact False.elim q
  | exc c fs ℓ' A' => rw [e] at q; exact fun ι' H' σ' cls d U' M' _ x' => q ι' H' cls d U' M' x'
  | bad => rw [e] at q; exact False.elim q
end Sh

set_option Elab.async false
set_option linter.all false
set_option maxRecDepth 100000
set_option maxHeartbeats 4000000
namespace Sh
open PySem L2 PyProof.Rows

/-! ### constants of the module -/
def relCs (f : AV → Value → Bool) : List AV → List Value → Bool
  | [], [] => true
  | a :: as, u :: us => f a u && relCs f as us
  | _, _ => false
def relC (K : PySem.W.Frag) : Nat → AV → Value → Bool
  | 0, _, _ => false
  | n + 1, v, u => match v, u with
    | .non, .none => true
    | .bl b, .bool c => b == c
    | .int i, .int j _ => decide (i = j)
    | .str x, .str y _ => decide (x = y)
    | .ty a, .type b => decide (a = b)
    | .tup xs, .ref a => (match K.lookup a with
      | some ⟨.type c, _, .seq its _, _⟩ => decide (c = "tuple") && (decide (its.size ≤ sizeLine) && relCs (relC K n) xs its.toList)
      | _ => false)
    | _, _ => false
def CRel (K : PySem.W.Frag) (v : AV) (u : Value) : Prop := ∃ y, RelV y u ∧ ∀ R : Rc, R.K = K → ∀ ι H, VR R ι H v y
theorem relCs_ok {K : PySem.W.Frag} {f : AV → Value → Bool} (hf : ∀ v u, f v u = true → CRel K v u) : ∀ {as : List AV} {us : List Value}, relCs f as us = true → ∃ ys, Vals ys us ∧ ∀ R : Rc, R.K = K → ∀ ι H, VRs R ι H as ys
  | [], [], _ => ⟨[], .nil, fun R _ ι H => by unfold VRs; rfl⟩
  | [], _ :: _, h => by cases h
  | _ :: _, [], h => by cases h
  | a :: as, u :: us, h => by
    unfold relCs at h
    rw [Bool.and_eq_true] at h
    obtain ⟨y, h1, h2⟩ := hf a u h.1
    obtain ⟨ys, h3, h4⟩ := relCs_ok hf h.2
    exact ⟨y :: ys, .cons h1 h3, fun R e ι H => by unfold VRs; exact ⟨y, ys, rfl, h2 R e ι H, h4 R e ι H⟩⟩
theorem relC_ok {K : PySem.W.Frag} : ∀ (n : Nat) (v : AV) (u : Value), relC K n v u = true → CRel K v u
  | 0, v, u, h => by cases h
  | n + 1, v, u, h => by
    unfold relC at h
    split at h
    · exact ⟨.non, rfl, fun R _ ι H => mk_non⟩
    · rename_i b c
      have e : b = c := by simpa using h
      subst e
      exact ⟨.bl b, rfl, fun R _ ι H => mk_bl⟩
    · have e := of_decide_eq_true h
      subst e
      exact ⟨.int _, ⟨_, rfl⟩, fun R _ ι H => mk_int⟩
    · have e := of_decide_eq_true h
      subst e
      exact ⟨.str _, ⟨_, rfl⟩, fun R _ ι H => mk_str⟩
    · have e := of_decide_eq_true h
      subst e
      exact ⟨.ty _, rfl, fun R _ ι H => by unfold VR; rfl⟩
    · rename_i xs a
      split at h
      · rename_i c od its m sl q
        rw [Bool.and_eq_true, Bool.and_eq_true] at h
        obtain ⟨ys, h1, h2⟩ := relCs_ok (relC_ok n) h.2.2
        refine ⟨.ref a, rfl, fun R e ι H => mk_tup (vs := ys) ?_ (h2 R e ι H)⟩
        rw [e]
        exact .inr ⟨_, its, m, q, congrArg Value.type (of_decide_eq_true h.1), rfl, of_decide_eq_true h.2.1, h1⟩
      · cases h
    · cases h
/-- a constant: its name, its value; a dict that is read: its entries as far as they are wanted -/
def conB (K : PySem.W.Frag) (q : Str × AV) : Bool := match q.2 with
  | .gd n kvs => decide (n = q.1) && (He.eqO (PySem.W.nsIn K mainGlobals q.1) (some (some (.ref (He.ga K q.1)))) && kvs.all fun kv => match kv.1 with
    | .inr z => (match PySem.W.nsIn K (He.ga K q.1) z with | some (some u) => relC K 8 kv.2 u | _ => false)
    | .inl _ => false)
  | v => match PySem.W.nsIn K mainGlobals q.1 with | some (some u) => relC K 8 v u | _ => false
def isGd : AV → Bool
  | .gd _ _ => true
  | _ => false
/-! ### the hook -/
def gloB (K : PySem.W.Frag) (d : He.DefD) : Bool := match d.at_ with
  | (x, none) => (He.Fa.glo x).ok K
  | _ => true
def chkB (cons : List (Str × AV)) (fn : List He.DefD) (K : PySem.W.Frag) : Bool := (cons.all fun q => conB K q) && ((bltNames.all fun x => He.eqO (PySem.W.nsIn K mainGlobals x) (some none)) && fn.all fun d => gloB K d)
abbrev Al : Type := Bool × List He.FnW × List (Option (List (Option (Str × Int))))
def obsS (cons : List (Str × AV)) (fn : List He.DefD) (ts : List (Str × List Str)) (K : PySem.W.Frag) : Al := (chkB cons fn K && fn.all fun d => d.ok K, fn.map fun d => He.fnW K d.at_, ts.map fun t => He.dicW K (He.ga K t.1))
def valS (fn : List He.DefD) (ts : List (Str × List Str)) (w : World) : Al := (true, fn.map He.DefD.val, ts.map fun t => some (He.keysIn w.params t.2))
def obsSG (n : Nat) (cons : List (Str × AV)) (fn : List He.DefD) (ts : List (Str × List Str)) (g : Addr → Option Obj) : Al := obsS cons fn ts (He.frG g (He.asD g n))
def SaysS (cons : List (Str × AV)) (fn : List He.DefD) (ts : List (Str × List Str)) (w : World) (K : PySem.W.Frag) : Prop := obsS cons fn ts K = valS fn ts w
def hookS (n : Nat) (cons : List (Str × AV)) (fn : List He.DefD) (ts : List (Str × List Str)) : PySem.W.Hook where
  α := Al
  obs := fun s => obsSG n cons fn ts s.heap.get?
  val := fun w => valS fn ts w
  says := fun w h => ∃ K : PySem.W.Frag, K.In h ∧ SaysS cons fn ts w K
  of := fun _ _ e => ⟨_, He.frG_in, e⟩
  keeps := fun _ _ _ ⟨K, hK, c⟩ k => ⟨K, PySem.W.Frag.In.keeps hK k, c⟩
theorem obsSG_eq {n : Nat} {cons : List (Str × AV)} {fn : List He.DefD} {ts : List (Str × List Str)} {g : Addr → Option Obj} {s : Shared} (h : ∀ a, g a = s.heap.get? a) : obsSG n cons fn ts g = (hookS n cons fn ts).obs s := by
  have e : g = s.heap.get? := funext h
  rw [e] <;> rfl
section
variable {cons : List (Str × AV)} {fn : List He.DefD} {ts : List (Str × List Str)} {w : World} {K : PySem.W.Frag}
theorem SaysS.def_ (c : SaysS cons fn ts w K) (i : Nat) {d : He.DefD} (h : fn[i]? = some d := by rfl) : ∃ fd, FunD K d.name d.qual d.params d.body d.scope (d.dvs K) (d.kws K) (He.fAd K d.at_) fd := by
  have c2 := (He.ba (show (chkB cons fn K && fn.all fun d => d.ok K) = true from congrArg (fun z : Al => z.1) c)).2
  have e : fn.map (fun d => He.fnW K d.at_) = fn.map He.DefD.val := congrArg (fun z : Al => z.2.1) c
  have e2 : (fn.map fun d => He.fnW K d.at_)[i]? = (fn.map He.DefD.val)[i]? := by rw [e]
  rw [List.getElem?_map, List.getElem?_map, h] at e2
  exact He.DefD.funD (Option.some.inj e2) (List.all_eq_true.mp c2 d (List.mem_of_getElem? h))
theorem SaysS.chk (c : SaysS cons fn ts w K) : chkB cons fn K = true := (He.ba (show (chkB cons fn K && fn.all fun d => d.ok K) = true from congrArg (fun z : Al => z.1) c)).1
theorem SaysS.tab (c : SaysS cons fn ts w K) {t : Str × List Str} (h : t ∈ ts) : ∃ es n, KDict K w (He.ga K t.1) es n := by
  have e : ts.map (fun t => He.dicW K (He.ga K t.1)) = ts.map fun t => some (He.keysIn w.params t.2) := congrArg (fun z : Al => z.2.2) c
  obtain ⟨i, hi⟩ := List.getElem?_of_mem h
  have e2 : (ts.map fun t => He.dicW K (He.ga K t.1))[i]? = (ts.map fun t => some (He.keysIn w.params t.2))[i]? := by rw [e]
  rw [List.getElem?_map, List.getElem?_map, hi] at e2
  exact He.dicW_ok (Option.some.inj e2)
end
/-- the relation of a head: dicts that are read stand where their names say -/
def rcOf (K : PySem.W.Frag) (w : World) (cons : List (Str × AV)) : Rc := ⟨K, w, fun _ => none, fun x => some (He.ga K x), fun x => match cons.lookup x with | some (.gd _ kvs) => some kvs | _ => none⟩
theorem lookup_mem' {α : Type} {x : Str} {v : α} : ∀ {l : List (Str × α)}, l.lookup x = some v → (x, v) ∈ l
  | [], h => by cases h
  | (y, u) :: r, h => by
    rw [List.lookup_cons] at h
    split at h
    · rename_i e
      cases h
      rw [eq_of_beq e]
      exact List.mem_cons_self
    · exact List.mem_cons_of_mem _ (lookup_mem' h)
section
variable {cons : List (Str × AV)} {fn : List He.DefD} {ts : List (Str × List Str)} {w : World} {K : PySem.W.Frag} {h : Heap} {mg : Str → Option Value}
theorem con_ok {x : Str} {v : AV} (c : SaysS cons fn ts w K) (X : K.In h) (G : h.Ns mainGlobals mg) (e : cons.lookup x = some v) : ∃ u y, mg x = some u ∧ RelV y u ∧ ∀ ι H, VR (rcOf K w cons) ι H v y := by
  have c1 := (He.ba c.chk).1
  have c2 : conB K (x, v) = true := List.all_eq_true.mp c1 _ (lookup_mem' e)
  unfold conB at c2
  split at c2
  · rename_i n kvs ev
    have ev' : v = .gd n kvs := ev
    subst ev'
    obtain ⟨d1, d2⟩ := He.ba c2
    obtain ⟨d3, _⟩ := He.ba d2
    have e1 : n = x := of_decide_eq_true d1
    subst e1
    refine ⟨_, .ref (He.ga K n), PySem.W.mg_of X G (He.eqO_ok d3), rfl, fun ι H => ?_⟩
    unfold VR
    refine ⟨He.ga K n, rfl, ?_, rfl⟩
    show (match cons.lookup n with | some (.gd _ kvs) => some kvs | _ => none) = some kvs
    rw [e]
  · split at c2
    · rename_i u e2
      obtain ⟨y, h1, h2⟩ := relC_ok _ _ _ c2
      exact ⟨u, y, PySem.W.mg_of X G e2, h1, h2 (rcOf K w cons) rfl⟩
    · cases c2
theorem gd_ok (c : SaysS cons fn ts w K) (ht : (cons.all fun q => match q.2 with | .gd _ _ => ts.any fun t => decide (t.1 = q.1) | _ => true) = true) : GdOk (rcOf K w cons) := by
  intro n kvs p h1 h2 z v hv
  have h1' : (match cons.lookup n with | some (.gd _ kvs) => some kvs | _ => none) = some kvs := h1
  split at h1'
  · rename_i m kvs' e
    cases h1'
    have hm := lookup_mem' e
    have c2 : conB K (n, .gd m kvs) = true := List.all_eq_true.mp (He.ba c.chk).1 _ hm
    unfold conB at c2
    simp only at c2
    obtain ⟨d1, d2⟩ := He.ba c2
    obtain ⟨d3, d4⟩ := He.ba d2
    have hp : p = He.ga K n := by
      have : some (He.ga K n) = some p := h2
      exact (Option.some.inj this).symm
    subst hp
    have t1 := List.all_eq_true.mp ht _ hm
    obtain ⟨t, tm, te⟩ := List.any_eq_true.mp t1
    have te' : t.1 = n := of_decide_eq_true te
    obtain ⟨es, k, D⟩ := c.tab tm
    rw [te'] at D
    unfold valA at hv
    cases ef : kvs.find? (fun kv => decide (kv.1 = Sum.inr z)) with
    | none => rw [ef] at hv; cases hv
    | some kv =>
      rw [ef] at hv
      cases hv
      have km := List.mem_of_find?_eq_some ef
      have kz : kv.1 = Sum.inr z := by simpa using List.find?_some ef
      have d5 := List.all_eq_true.mp d4 kv km
      rw [kz] at d5
      simp only at d5
      split at d5
      · rename_i u e2
        obtain ⟨y, r1, r2⟩ := relC_ok _ _ _ d5
        exact ⟨y, ⟨es, k, u, D.at_, D.lit, e2, r1⟩, r2 (rcOf K w cons) rfl⟩
      · cases d5
  · cases h1'
theorem blt_ok (c : SaysS cons fn ts w K) (X : K.In h) (G : h.Ns mainGlobals mg) : ∀ x ∈ bltNames, mg x = none := fun x hx =>
  PySem.W.mg_none_of X G (He.eqO_ok (List.all_eq_true.mp (He.ba (He.ba c.chk).2).1 x hx))
theorem SaysS.glo (c : SaysS cons fn ts w K) (X : K.In h) (G : h.Ns mainGlobals mg) (i : Nat) {d : He.DefD} {x : Str} (hd : fn[i]? = some d := by rfl) (hx : d.at_ = (x, none) := by rfl) : mg x = some (.ref (He.fAd K d.at_)) := by
  have c2 := List.all_eq_true.mp (He.ba (He.ba c.chk).2).2 d (List.mem_of_getElem? hd)
  unfold gloB at c2
  rw [hx] at c2
  rw [hx]
  exact He.glo_ok X G c2
/-- the empty table -/
theorem tab0 {P : Program} {base : Heap} (c : SaysS cons fn ts w K) (X : K.In h) (G : h.Ns mainGlobals mg) (ht : (cons.all fun q => match q.2 with | .gd _ _ => ts.any fun t => decide (t.1 = q.1) | _ => true) = true) (k : Nat) : TabOk (rcOf K w cons) P mg base k [] cons :=
  ⟨gd_ok c ht, fun x g e => (nomatch e), fun x v e => con_ok c X G e, blt_ok c X G⟩
end
theorem TabOk.up {R : Rc} {P : Program} {mg : Str → Option Value} {base : Heap} {j k : Nat} {funs : List (Str × GF)} {cons : List (Str × AV)} (T : TabOk R P mg base j funs cons) (h : j ≤ k) : TabOk R P mg base k funs cons :=
  ⟨T.gd, fun x g e => by
    obtain ⟨f, fd, ps, ds, dvs, h1, h2, h3, h4⟩ := T.funs x g e
    exact ⟨f, fd, ps, ds, dvs, h1, h2, h3.mono h, h4⟩, T.cons, T.blt⟩
/-- one def more, without defaults -/
theorem TabOk.add {R : Rc} {P : Program} {mg : Str → Option Value} {base : Heap} {k : Nat} {funs : List (Str × GF)} {cons : List (Str × AV)} (T : TabOk R P mg base k funs cons) {x : Str} {fn : Fn} {f : Addr} {fd : FuncData} {ps : List Str}
    (m : mg x = some (.ref f)) (kp : PySem.W.keepIn R.K (.ref f) = true) (F : FnOk P R.w R.K mg base (L2.CX P R.w) k f fd ps (SpOf R fn ps.length)) (b : Binds R.K fd ps []) : TabOk R P mg base k ((x, ⟨fn, ps.length, []⟩) :: funs) cons :=
  ⟨T.gd, fun y g e => by
    rw [List.lookup_cons] at e
    split at e
    · rename_i hb
      cases e
      rw [eq_of_beq hb]
      exact ⟨f, fd, ps, [], [], m, kp, F, fun j => by rw [List.drop_nil]; exact b, .nil, fun ι H => by unfold VRs; rfl⟩
    · exact T.funs y g e, T.cons, T.blt⟩
/-- a def of the head, by its text -/
theorem fnD_ok {R : Rc} {P : Program} {mg : Str → Option Value} {base : Heap} {k : Nat} {funs : List (Str × GF)} {cons : List (Str × AV)} (T : TabOk R P mg base k funs cons)
    {x qual : Str} {params : Arguments} {sts : List Stmt} {scope : Scope} {dvs : List V} {kws : List (Str × V)} {f : Addr} {fd : FuncData} {N ps : List Str} {n : Nat} {body : SF} (F : FunD R.K x qual params sts scope dvs kws f fd) (S : FnScope N ps scope)
    (hc : compSs n (cpOf N scope k funs cons) sts = some body) :
    FnOk P R.w R.K mg base (L2.CX P R.w) (k + 1) f fd ps (SpOf R (runFn body N.length) ps.length) := by
  refine F.ok S (fun vs H Q E h => h.len) fun cdv A outer s H vs Q E hr h => ?_
  obtain ⟨ι, A0, as, M, r, hl, q⟩ := h
  have o : CxOk R (cpOf N scope k funs cons) (cxOf (L2.CX P R.w) P R.w R.K mg base N qual scope f cdv A outer s H E) (fun cls d _ H => E cls d H) :=
    ⟨rfl, rfl, rfl, rfl, S.kind, S.nd, rfl, hr, takes_of rfl rfl rfl rfl, passes_of rfl, fun _ _ => rfl, T.gd, fun y g h => by
      obtain ⟨f', fd', ps', ds, dvs, h1, h2, h3, h4, h5, h6⟩ := T.funs y g h
      exact ⟨f', fd', ps', ds, dvs, h1, h2, h3, h4, h5, h6⟩, T.cons, T.blt⟩
  obtain ⟨t, h1, h2⟩ := (compS_ok (R := R) n).2 _ _ body hc _ _ o
  refine ⟨t, h1, h2 _ _ (as.map some ++ List.replicate (N.length - as.length) none) H ι A0 (LR.start r) M ?_⟩
  unfold runFn at q
  cases e : body (as.map some ++ List.replicate (N.length - as.length) none) A0 with
  | nx ℓ' A' => rw [e] at q; exact fun ι' H' σ' U' M' _ => q ι' H' .non U' M' mk_non
  | rt v A' => rw [e] at q; exact fun ι' H' x' U' M' r' => q ι' H' x' U' M' r'
  | bk ℓ' A' => rw [e] at q; exact False.elim q
  | ct ℓ' A' => rw [e] at q; exact False.elim q
  | exc c fs ℓ' A' => rw [e] at q; exact fun ι' H' σ' cls d U' M' _ x' => q ι' H' cls d U' M' x'
  | bad => rw [e] at q; exact False.elim q
/-- the law's own promise -/
theorem law_sp {R : Rc} {fn : Fn} {H : Hp} {a : Addr} {ns : List Int} (hO : Only H) (hS : SqL R.K H a (ns.map V.int)) {A' : AH} (e : fn [.fl (ns.map AV.int)] [] = .ok (.bl true) A') : SpOf R fn 1 [.ref a] H (fun v _ => v = .bl true) fun _ _ _ => False := by
  refine ⟨[], [], [.fl (ns.map AV.int)], ⟨rfl, List.nodup_nil, fun n o b h => by simp at h⟩, VRs.one ?_, rfl, ?_⟩
  · unfold VR
    refine ⟨a, ns.map V.int, rfl, ?_, ?_⟩
    · rcases hS with (h | ⟨ob, h⟩) | h
      · rcases hO a with z | ⟨ob, xs, z⟩
        · rw [z] at h; cases h
        · rw [z] at h; cases h
      · exact .inl ⟨ob, h⟩
      · exact .inr h
    · clear hS e
      induction ns with
      | nil => unfold VRs; rfl
      | cons n ns ih => unfold VRs; exact ⟨.int n, ns.map V.int, rfl, mk_int, ih⟩
  · rw [e]
    exact fun ι' H' x _ _ r => vr_bl r
theorem cx_none {P : Program} {w : World} (H : Hp) (s : Shared) (e : Value) (s' : Shared) : L2.CX P w [] H s (fun _ _ _ => False) e s' → False := fun h => by
  obtain ⟨_, _, _, _, _, _, _, _, _, _, _, _, z⟩ := h
  exact z
/-- the end of a law row, exceptions told by the world -/
theorem walkW {l : PySem.W.OpenLaw} {n k : Nat} {q : Program} {loose : List Str} {XP : (Str → Option Value) → Heap → Prop} {YP : World → Heap → Prop} {d : DefRec} {CX : World → CXT} {x : Str}
    (hn : l.most = some n) (hn2 : n ≤ sizeLine) (hdf : d.params.defaults = []) (hr : Room k callerA)
    (F : ∀ (w : World) (mg : Str → Option Value) (fa : Addr) (h : Heap), YP w h → h.Ns mainGlobals mg → mg d.name = some (.ref fa) →
      ∃ (K : PySem.W.Frag) (fd : FuncData) (sp : Sp), K.In h ∧ (∀ (s : Shared) (u : Value), BindsTo s fd ⟨[u], []⟩ [(x, u)]) ∧
        (∀ (H : Hp) (a : Addr) (ns : List Int), ns.length ≤ n → Only H → SqL K H a (ns.map V.int) → sp [.ref a] H (fun v _ => v = .bl true) fun _ _ _ => False) ∧
        ∀ base : Heap, K.In base → base.Ns mainGlobals mg → FnOk l.prog w K mg base (CX w) k fa fd [x] sp)
    (hCX : ∀ (w : World) (H : Hp) (s : Shared) (e : Value) (s' : Shared), CX w [] H s (fun _ _ _ => False) e s' → False) :
    PySem.W.WalkO q loose XP YP l.row.toRowW d [] (fun f vs => PySem.call f vs) := by
  refine Att.attach_call hn hdf fun w s₀ s₁ mg mb fa o pm cd doc a vs ns G Y ho hd hcd hmg hobj hints hlen hg => ?_
  obtain ⟨K, fd, sp, KX, hb, hsp, hF⟩ := F w mg fa _ Y G.T.g hmg
  exact law_call KX G.T.g G.T.b G.T.builtins G.T.nolimit hg hobj hints (Nat.le_trans hlen hn2) hr hF hb (fun H hO hS => hsp H a ns hlen hO hS) fun H e s' => hCX w H s₁ e s'
end Sh

set_option Elab.async false
set_option linter.all false
set_option maxRecDepth 100000
set_option maxHeartbeats 4000000
namespace Sh
open PySem L2 PyProof.Rows
/-! ### the readings as rules of simp -/
section
variable {α β : Type} {ℓ : LSt} {A : AH}
@[simp] theorem bind_ok {a : α} {k : α → AH → Res β} : (Res.ok a A).bind k = k a A := rfl
@[simp] theorem toS_ok {a : α} {k : α → AH → SRes} : (Res.ok a A).toS ℓ k = k a A := rfl
@[simp] theorem eC_ap {v : AV} : eC v ℓ A = .ok v A := rfl
@[simp] theorem eVar0 {v : AV} {r : LSt} : eVar 0 (some v :: r) A = .ok v A := rfl
@[simp] theorem eVarS {i : Nat} {v : Option AV} {r : LSt} : eVar (i + 1) (v :: r) A = eVar i r A := rfl
@[simp] theorem eVar1 {v : AV} {a : Option AV} {r : LSt} : eVar 1 (a :: some v :: r) A = .ok v A := rfl
@[simp] theorem eVar2 {v : AV} {a b : Option AV} {r : LSt} : eVar 2 (a :: b :: some v :: r) A = .ok v A := rfl
@[simp] theorem eVar3 {v : AV} {a b c : Option AV} {r : LSt} : eVar 3 (a :: b :: c :: some v :: r) A = .ok v A := rfl
@[simp] theorem eVar4 {v : AV} {a b c d : Option AV} {r : LSt} : eVar 4 (a :: b :: c :: d :: some v :: r) A = .ok v A := rfl
@[simp] theorem eVar5 {v : AV} {a b c d e : Option AV} {r : LSt} : eVar 5 (a :: b :: c :: d :: e :: some v :: r) A = .ok v A := rfl
@[simp] theorem eVar6 {v : AV} {a b c d e f : Option AV} {r : LSt} : eVar 6 (a :: b :: c :: d :: e :: f :: some v :: r) A = .ok v A := rfl
@[simp] theorem eVar7 {v : AV} {a b c d e f g : Option AV} {r : LSt} : eVar 7 (a :: b :: c :: d :: e :: f :: g :: some v :: r) A = .ok v A := rfl
@[simp] theorem eVar8 {v : AV} {a b c d e f g h : Option AV} {r : LSt} : eVar 8 (a :: b :: c :: d :: e :: f :: g :: h :: some v :: r) A = .ok v A := rfl
@[simp] theorem eVar9 {v : AV} {a b c d e f g h i : Option AV} {r : LSt} : eVar 9 (a :: b :: c :: d :: e :: f :: g :: h :: i :: some v :: r) A = .ok v A := rfl
@[simp] theorem eVar10 {v : AV} {a b c d e f g h i j : Option AV} {r : LSt} : eVar 10 (a :: b :: c :: d :: e :: f :: g :: h :: i :: j :: some v :: r) A = .ok v A := rfl
@[simp] theorem eVar11 {v : AV} {a b c d e f g h i j k : Option AV} {r : LSt} : eVar 11 (a :: b :: c :: d :: e :: f :: g :: h :: i :: j :: k :: some v :: r) A = .ok v A := rfl
@[simp] theorem eVar12 {v : AV} {a b c d e f g h i j k l : Option AV} {r : LSt} : eVar 12 (a :: b :: c :: d :: e :: f :: g :: h :: i :: j :: k :: l :: some v :: r) A = .ok v A := rfl
@[simp] theorem eVar13 {v : AV} {a b c d e f g h i j k l m : Option AV} {r : LSt} : eVar 13 (a :: b :: c :: d :: e :: f :: g :: h :: i :: j :: k :: l :: m :: some v :: r) A = .ok v A := rfl
@[simp] theorem eOp_ap {g : AV → AV → AH → Res AV} {f1 f2 : EF} : eOp g f1 f2 ℓ A = (f1 ℓ A).bind fun a A => (f2 ℓ A).bind fun b A => g a b A := rfl
@[simp] theorem eUn_ap {g : AV → AH → Res AV} {f1 : EF} : eUn g f1 ℓ A = (f1 ℓ A).bind fun a A => g a A := rfl
@[simp] theorem aNil_ap : aNil ℓ A = .ok [] A := rfl
@[simp] theorem aCons_ap {f : EF} {r : AF} : aCons f r ℓ A = (f ℓ A).bind fun a A => (r ℓ A).bind fun as A => .ok (a :: as) A := rfl
@[simp] theorem eTup_ap {f : AF} : eTup f ℓ A = (f ℓ A).bind fun as A => if as.length ≤ sizeLine then .ok (.tup as) A else .bad := rfl
@[simp] theorem eLst_ap {f : AF} : eLst f ℓ A = (f ℓ A).bind fun as A => if as.length ≤ sizeLine then .ok (.ref A.length) (A ++ [.lst as]) else .bad := rfl
@[simp] theorem eIf_ap {t : TF} {f g : EF} : eIf t f g ℓ A = (t ℓ A).bind fun b A => if b then f ℓ A else g ℓ A := rfl
@[simp] theorem tNotF_ap {t : TF} : tNotF t ℓ A = (t ℓ A).bind fun b A => .ok (!b) A := rfl
@[simp] theorem tAndF_ap {t u : TF} : tAndF t u ℓ A = (t ℓ A).bind fun b A => if b then u ℓ A else .ok false A := rfl
@[simp] theorem tOrF_ap {t u : TF} : tOrF t u ℓ A = (t ℓ A).bind fun b A => if b then .ok true A else u ℓ A := rfl
@[simp] theorem asBl_bl {b : Bool} : asBl (.bl b) A = .ok b A := rfl
@[simp] theorem tOfE_ap {f : EF} : tOfE f ℓ A = (f ℓ A).bind asBl := rfl
@[simp] theorem tTruF_ap {f : EF} : tTruF f ℓ A = (f ℓ A).bind fun a A => match truA a A with | some k => .ok k A | none => .bad := rfl
@[simp] theorem truA_bl {b : Bool} : truA (.bl b) A = some b := rfl
@[simp] theorem eAndF_ap {f g : EF} : eAndF f g ℓ A = (f ℓ A).bind fun a A => match a with | .bl b => if b then g ℓ A else .ok (.bl false) A | _ => .bad := rfl
@[simp] theorem eOrF_ap {f g : EF} : eOrF f g ℓ A = (f ℓ A).bind fun a A => match a with | .bl b => if b then .ok (.bl true) A else g ℓ A | _ => .bad := rfl
@[simp] theorem eNotF_ap {f : EF} : eNotF f ℓ A = (f ℓ A).bind fun a A => match a with | .bl b => .ok (.bl (!b)) A | _ => .bad := rfl
@[simp] theorem opAdd_int {i j : Int} : opAdd (.int i) (.int j) A = .ok (.int (i + j)) A := rfl
@[simp] theorem opSub_int {i j : Int} : opSub (.int i) (.int j) A = .ok (.int (i - j)) A := rfl
@[simp] theorem opFdiv_int {i j : Int} : opFdiv (.int i) (.int j) A = if 0 < j ∧ j < 1073741824 then .ok (.int (i / j)) A else .bad := rfl
@[simp] theorem opMod_int {i j : Int} : opMod (.int i) (.int j) A = if 0 < j then .ok (.int (i % j)) A else .bad := rfl
@[simp] theorem opMul_int {i j : Int} : opMul (.int i) (.int j) A = if small64 i || small64 j then .ok (.int (i * j)) A else .bad := rfl
@[simp] theorem cmpI_int {p : Int → Int → Bool} {i j : Int} : cmpI p (.int i) (.int j) A = .ok (.bl (p i j)) A := rfl
@[simp] theorem eCB_ap {g : List AV → AH → Res AV} {f : AF} : eCB g f ℓ A = (f ℓ A).bind g := rfl
@[simp] theorem bInt_int {i : Int} : bInt [.int i] A = .ok (.int i) A := rfl
@[simp] theorem bLen_tup {xs : List AV} : bLen [.tup xs] A = .ok (.int xs.length) A := rfl
@[simp] theorem cEq_int {i j : Int} : cEq (.int i) (.int j) A = .ok (.bl (PyData.eqv (.int i) (.int j))) A := rfl
@[simp] theorem cNe_int {i j : Int} : cNe (.int i) (.int j) A = .ok (.bl (!PyData.eqv (.int i) (.int j))) A := rfl
@[simp] theorem cIs_non {a : AV} : cIs a .non A = .ok (.bl (isNonB a)) A := rfl
@[simp] theorem cIsNot_non {a : AV} : cIsNot a .non A = .ok (.bl (!isNonB a)) A := rfl
@[simp] theorem eSl_ap {f : EF} {l h : OF} : eSl f l h ℓ A = (f ℓ A).bind fun a A => (l ℓ A).bind fun lo A => (h ℓ A).bind fun hi A => opSl a lo hi A := rfl
@[simp] theorem oNone_ap : oNone ℓ A = .ok none A := rfl
@[simp] theorem oSome_ap {f : EF} : oSome f ℓ A = (f ℓ A).bind fun a A => match a with | .int i => .ok (some i) A | _ => .bad := rfl
@[simp] theorem opSl_tup {xs : List AV} {lo hi : Option Int} : opSl (.tup xs) lo hi A = .ok (.tup (cutA xs lo hi)) A := rfl
@[simp] theorem iVal_ap {f : EF} : iVal f ℓ A = (f ℓ A).bind asWalk := rfl
@[simp] theorem asWalk_tup {xs : List AV} : asWalk (.tup xs) A = .ok (wPure xs) A := rfl
@[simp] theorem asWalk_fl {xs : List AV} : asWalk (.fl xs) A = .ok (wPure xs) A := rfl
@[simp] theorem sNext_ap : sNext ℓ A = .nx ℓ A := rfl
@[simp] theorem sSeq_ap {f g : SF} : sSeq f g ℓ A = match f ℓ A with | .nx ℓ' A' => g ℓ' A' | r => r := rfl
@[simp] theorem sExpr_ap {f : EF} : sExpr f ℓ A = (f ℓ A).toS ℓ fun _ A => .nx ℓ A := rfl
@[simp] theorem sRet_ap {f : EF} : sRet f ℓ A = (f ℓ A).toS ℓ fun v A => .rt v A := rfl
@[simp] theorem sRetN_ap : sRetN ℓ A = .rt .non A := rfl
@[simp] theorem sIf_ap {t : TF} {f g : SF} : sIf t f g ℓ A = (t ℓ A).toS ℓ fun b A => if b then f ℓ A else g ℓ A := rfl
@[simp] theorem sSet_ap {i : Nat} {f : EF} : sSet i f ℓ A = (f ℓ A).toS ℓ fun v A => .nx (ℓ.set i (some v)) A := rfl
@[simp] theorem sSub_ap {fv fo fi : EF} : sSub fv fo fi ℓ A = (fv ℓ A).toS ℓ fun v A => (fo ℓ A).toS ℓ fun o A => (fi ℓ A).toS ℓ fun i A => match opSet o i v A with
  | some A' => .nx ℓ A'
  | none => .bad := rfl
theorem sFor_ap {it : IF} {tg : GF1} {body : SF} : sFor it tg body ℓ A = (it ℓ A).toS ℓ fun w A => forLoop w tg body w.n 0 ℓ A := rfl
@[simp] theorem gNm_ap {i : Nat} {v : AV} : gNm i v ℓ A = some (ℓ.set i (some v)) := rfl
@[simp] theorem tYesF_ap : tYesF ℓ A = .ok true A := rfl
@[simp] theorem eLc_ap {it : IF} {tg : GF1} {t : TF} {elt : EF} {vs : List Nat} : eLc it tg t elt vs ℓ A = (it ℓ A).bind fun w A => (lcLoop w tg t elt (wipeA ℓ vs) w.n 0 [] A).bind fun acc A => .ok (.ref A.length) (A ++ [.lst acc]) := rfl
@[simp] theorem eCall_ap {g : GF} {f : AF} : eCall g f ℓ A = (f ℓ A).bind fun as A => if as.length ≤ g.np ∧ g.np ≤ as.length + g.dv.length then g.fn (as ++ g.dv.drop (as.length + g.dv.length - g.np)) A else .bad := rfl
@[simp] theorem eBM_ap {T : RT} {g : AV → List AV → AH → Res AV} {fo : EF} {fa : AF} : eBM T g fo fa ℓ A = (fo ℓ A).bind fun a A => if rcv T a A then (fa ℓ A).bind fun as A => g a as A else .bad := rfl
theorem iRange1 {f : EF} {j : Int} {A' : AH} (h : f ℓ A = .ok (.int j) A') (hj : -(2 ^ 62) ≤ j ∧ j < 2 ^ 62) : iRange (aCons f aNil) ℓ A = .ok (wPure (rangeA 0 j.toNat)) A' := by
  unfold iRange
  rw [aCons_ap, h]
  simp only [bind_ok, aNil_ap]
  rw [if_pos (w62_of hj)]
/-- a list comprehension over a pure walk, with a fact kept -/
theorem lc_inv {tg : GF1} {elt : EF} {xs : List AV} {ℓ0 : LSt} (I : AH → Prop) (P : AV → Prop)
    (step : ∀ x ∈ xs, ∀ A, I A → ∃ ℓ1, tg x ℓ0 A = some ℓ1 ∧ ∃ y A', elt ℓ1 A = .ok y A' ∧ I A' ∧ P y) :
    ∀ (m i : Nat) (acc : List AV) (A : AH), i + m = xs.length → acc.length + m ≤ sizeLine → I A → (∀ y ∈ acc, P y) → ∃ out A', lcLoop (wPure xs) tg tYesF elt ℓ0 m i acc A = .ok out A' ∧ I A' ∧ (∀ y ∈ out, P y) ∧ out.length = acc.length + m
  | 0, i, acc, A, hi, hl, hA, hp => ⟨acc, A, rfl, hA, hp, rfl⟩
  | m + 1, i, acc, A, hi, hl, hA, hp => by
    have hx : i < xs.length := by omega
    obtain ⟨ℓ1, e1, y, A1, e2, hA1, hy⟩ := step xs[i] (List.getElem_mem hx) A hA
    obtain ⟨out, A', e3, h4, h5, h6⟩ := lc_inv I P step m (i + 1) (acc ++ [y]) A1 (by omega) (by simp; omega) hA1 (by
      intro z hz
      rcases List.mem_append.mp hz with h | h
      · exact hp z h
      · rw [List.mem_singleton.mp h]; exact hy)
    refine ⟨out, A', ?_, h4, h5, by rw [h6]; simp; omega⟩
    unfold lcLoop
    have e0 : (wPure xs).get i A = some xs[i] := List.getElem?_eq_getElem hx
    rw [e0]
    simp only [e1, tYesF_ap, noX, bind_ok, e2, if_true]
    rw [if_pos (by omega)]
    exact e3
/-- a list comprehension over a pure walk that computes a map and keeps the heap -/
theorem lc_map {tg : GF1} {elt : EF} {xs : List AV} {ℓ0 : LSt} {A : AH} (f : AV → AV)
    (step : ∀ x ∈ xs, ∃ ℓ1, tg x ℓ0 A = some ℓ1 ∧ elt ℓ1 A = .ok (f x) A) :
    ∀ (m i : Nat) (acc : List AV), i + m = xs.length → acc.length + m ≤ sizeLine → lcLoop (wPure xs) tg tYesF elt ℓ0 m i acc A = .ok (acc ++ (xs.drop i).map f) A
  | 0, i, acc, hi, hl => by
    have e : xs.drop i = [] := List.drop_eq_nil_of_le (by omega)
    rw [e, List.map_nil, List.append_nil]
    rfl
  | m + 1, i, acc, hi, hl => by
    have hx : i < xs.length := by omega
    obtain ⟨ℓ1, e1, e2⟩ := step xs[i] (List.getElem_mem hx)
    have e3 := lc_map f step m (i + 1) (acc ++ [f xs[i]]) (by omega) (by simp; omega)
    unfold lcLoop
    have e0 : (wPure xs).get i A = some xs[i] := List.getElem?_eq_getElem hx
    rw [e0]
    simp only [e1, tYesF_ap, noX, bind_ok, e2, if_true]
    rw [if_pos (by omega), e3, List.drop_eq_getElem_cons hx, List.map_cons, List.append_assoc]
    rfl
end
theorem atI_get {α : Type} {xs : List α} {i : Int} {v : α} (h : 0 ≤ i) (e : xs[i.toNat]? = some v) : atI xs i = some v := by
  have hk : i.toNat < xs.length := by
    by_cases hk : i.toNat < xs.length
    · exact hk
    · rw [List.getElem?_eq_none (by omega)] at e; cases e
  unfold atI ixN
  rw [if_pos h, if_pos (by omega)]
  exact e
theorem atA_get {xs : List AV} {i : Int} {v : AV} {A : AH} (h : 0 ≤ i) (e : xs[i.toNat]? = some v) : atA xs i A = .ok v A := by
  unfold atA
  rw [atI_get h e]
theorem small64_of {i : Int} (h : -(2 ^ 64) < i) (h2 : i < 2 ^ 64) : small64 i = true := by
  unfold small64
  exact decide_eq_true ⟨h, h2⟩
theorem lst_last {T : AH} {xs : List AV} : AH.lst? (T ++ [.lst xs]) T.length = some xs := by
  unfold AH.lst?
  rw [List.getElem?_append_right (Nat.le_refl _), Nat.sub_self]
  rfl
theorem lst_app {T U : AH} {n : Nat} {xs : List AV} (h : AH.lst? T n = some xs) : AH.lst? (T ++ U) n = some xs := by
  unfold AH.lst? at *
  have hn : n < T.length := by
    by_cases hn : n < T.length
    · exact hn
    · rw [List.getElem?_eq_none (by omega)] at h; cases h
  rw [List.getElem?_append_left hn]
  exact h
@[simp] theorem eqv_int {i j : Int} : PyData.eqv (.int i) (.int j) = (i == j) := by unfold PyData.eqv; rfl
theorem atomD_plain {v : AV} {d : PyData} (h : atomD v = some d) : d.plain = true := by
  cases v <;> first | (cases h; done) | (cases h; rfl)
theorem datsBy_plain {f : AV → Option PyData} (hf : ∀ v d, f v = some d → d.plain = true) : ∀ {xs : List AV} {ds : List PyData}, datsBy f xs = some ds → PyData.plainAll ds = true
  | [], ds, h => by cases h; rfl
  | a :: as, ds, h => by
    unfold datsBy at h
    split at h
    · rename_i d ds' e1 e2
      cases h
      show (d.plain && PyData.plainAll ds') = true
      rw [hf _ _ e1, datsBy_plain hf e2]
      rfl
    · cases h
theorem dat_plain {A : AH} : ∀ (n : Nat) (v : AV) (d : PyData), dat A n v = some d → d.plain = true
  | 0, v, d, h => atomD_plain h
  | n + 1, v, d, h => by
    unfold dat at h
    split at h
    · rename_i xs
      cases e : datsBy (dat A n) xs with
      | none => rw [e] at h; cases h
      | some ds => rw [e] at h; cases h; exact datsBy_plain (dat_plain n) e
    · split at h
      · rename_i xs _
        cases e : datsBy (dat A n) xs with
        | none => rw [e] at h; cases h
        | some ds => rw [e] at h; cases h; exact datsBy_plain (dat_plain n) e
      · exact atomD_plain h
theorem cEq_self {A : AH} {a : AV} {d : PyData} (h : dat A depthD a = some d) : cEq a a A = .ok (.bl true) A := by
  unfold cEq
  rw [h]
  show Res.ok (AV.bl (PyData.eqv d d)) A = _
  rw [PySem.SeqAt.eqv_refl_plain d (dat_plain _ _ _ h)]
theorem cNe_self {A : AH} {a : AV} {d : PyData} (h : dat A depthD a = some d) : cNe a a A = .ok (.bl false) A := by
  unfold cNe
  rw [h]
  show Res.ok (AV.bl (!PyData.eqv d d)) A = _
  rw [PySem.SeqAt.eqv_refl_plain d (dat_plain _ _ _ h)]
  rfl
theorem for_eq {it : IF} {tg : GF1} {body : SF} {ℓ : LSt} {A A' : AH} {w : Walk} (h : it ℓ A = .ok w A') : sFor it tg body ℓ A = forLoop w tg body w.n 0 ℓ A' := by
  unfold sFor
  rw [h]
  rfl
theorem iRangeN {f : EF} {n : Nat} {ℓ : LSt} {A A' : AH} (h : f ℓ A = .ok (.int (n : Int)) A') (hn : n ≤ 1000000) : iRange (aCons f aNil) ℓ A = .ok (wPure (rangeA 0 n)) A' := by
  have := iRange1 (ℓ := ℓ) h ⟨by omega, by omega⟩
  rw [this, Int.toNat_natCast]
theorem lc_eq {it : IF} {tg : GF1} {t : TF} {elt : EF} {vs : List Nat} {ℓ : LSt} {A A' A'' : AH} {w : Walk} {out : List AV} (h : it ℓ A = .ok w A') (h2 : lcLoop w tg t elt (wipeA ℓ vs) w.n 0 [] A' = .ok out A'') : eLc it tg t elt vs ℓ A = .ok (.ref A''.length) (A'' ++ [.lst out]) := by
  unfold eLc
  rw [h]
  show (lcLoop w tg t elt (wipeA ℓ vs) w.n 0 [] A').bind _ = _
  rw [h2]
  rfl
end Sh

set_option Elab.async false
set_option linter.all false
set_option maxRecDepth 100000
set_option maxHeartbeats 4000000
namespace K45
open PySem L2 PyProof.Rows Sh
abbrev cLt : AV → AV → AH → Res AV := cmpI fun i j => decide (i < j)
abbrev cLe : AV → AV → AH → Res AV := cmpI fun i j => decide (i ≤ j)
abbrev cGt : AV → AV → AH → Res AV := cmpI fun i j => decide (j < i)
abbrev cGe : AV → AV → AH → Res AV := cmpI fun i j => decide (j ≤ i)
def c_EFFECTS : AV := .gd "EFFECTS" [(.inr "lit", .tup [.int 0, .int 1]), (.inr "data", .tup [.int 0, .int 1]), (.inr "token", .tup [.int 0, .int 1]), (.inr "dup", .tup [.int 1, .int 2]), (.inr "drop", .tup [.int 1, .int 0]), (.inr "swap", .tup [.int 2, .int 2]), (.inr "over", .tup [.int 2, .int 3]), (.inr "rot", .tup [.int 3, .int 3])]
def c_LAYOUT : AV := .tup [.str "lit", .str "data", .str "token", .str "dup", .str "drop", .str "swap", .str "over", .str "rot"]
def cons : List (Str × AV) := [("EFFECTS", c_EFFECTS), ("LAYOUT", c_LAYOUT)]
def ts : List (Str × List Str) := [("EFFECTS", (["lit", "data", "token", "dup", "drop", "swap", "over", "rot", ">r", "r>", "r@", "+", "-", "*", "/", "mod", "and", "or", "xor", "=", "<", "u<", "invert", "0=", "@", "!", "c@", "c!", "here", "allot"] : List Str) ++ ([",", "c,", "cell", ".", "emit", "type", "ask", "local", "set", "goto", "unless", "is", "exit", "throw", "word", "parse", "pad@", "pad,", "lookup", "'", "compile", "literal", "address", "local,", "state", "[", "]", ":", ";", "[:"] : List Str) ++ ([";]", "self,", "run,", "catch,", "is,", "to,", "{", "postpone", "immediate", "create", "behave", "defer", "marker", "<mark", "<goto", "<unless", "goto>", "unless>", ">land", "new-list", "also", "into", "previous"] : List Str))]
def sh__law_integer : SF := (sRet (eAndF (eCB bIsi (aCons (eVar 0) (aCons (eC (.ty "int")) aNil))) (eNotF (eCB bIsi (aCons (eVar 0) (aCons (eC (.ty "bool")) aNil))))))
def fn__law_integer : Fn := runFn sh__law_integer 1
def g__law_integer : GF := ⟨fn__law_integer, 1, []⟩
def sh__law_same_3 : SF := (sRet (eOp cEq (eVar 0) (eVar 1)))
def sh__law_same_2b_0 : SF := (sIf (tOrF (tNotF (tTruF (eCB bIsi (aCons (eOp opIx (eVar 0) (eVar 2)) (aCons (eC (.ty "tuple")) aNil))))) (tOrF (tOfE (eOp cNe (eCB bLen (aCons (eOp opIx (eVar 0) (eVar 2)) aNil)) (eC (.int 2)))) (tNotF (tTruF (eCall g__law_integer (aCons (eOp opIx (eOp opIx (eVar 0) (eVar 2)) (eC (.int 1))) aNil))))))
  (sRet (eC (.bl false)))
  sNext)
def sh__law_same_2 : SF := (sSeq (sFor (iRange (aCons (eCB bLen (aCons (eVar 1) aNil)) aNil)) (gNm 2)
  sh__law_same_2b_0)
  sh__law_same_3)
def sh__law_same_1 : SF := (sSeq (sIf (tOrF (tNotF (tTruF (eCB bIsi (aCons (eVar 0) (aCons (eC (.ty "tuple")) aNil))))) (tOfE (eOp cNe (eCB bLen (aCons (eVar 0) aNil)) (eCB bLen (aCons (eVar 1) aNil)))))
  (sRet (eC (.bl false)))
  sNext)
  sh__law_same_2)
def sh__law_same_0 : SF := (sSeq (sIf (tOfE (eOp cIs (eVar 1) (eC (.non))))
  (sRet (eOp cIs (eVar 0) (eC (.non))))
  sNext)
  sh__law_same_1)
def sh__law_same : SF := sh__law_same_0
def fn__law_same : Fn := runFn sh__law_same 3
def g__law_same : GF := ⟨fn__law_same, 2, []⟩
def sh_layout_step : SF := (sSeq (sSet 2 (eOp opIx (eVar 0) (eC (.int 0))))
  (sSeq (sIf (tOrF (tOfE (eOp cNotIn (eVar 2) (eC c_LAYOUT))) (tOfE (eOp cLt (eCB bLen (aCons (eVar 1) aNil)) (eOp opIx (eOp opIx (eC c_EFFECTS) (eVar 2)) (eC (.int 0))))))
  (sRet (eC (.non)))
  sNext)
  (sSeq (sIf (tOfE (eOp cIn (eVar 2) (eTup (aCons (eC (.str "lit")) (aCons (eC (.str "data")) (aCons (eC (.str "token")) aNil))))))
  (sRet (eOp opAdd (eVar 1) (eTup (aCons (eVar 0) aNil))))
  sNext)
  (sSeq (sIf (tOfE (eOp cEq (eVar 2) (eC (.str "dup"))))
  (sRet (eOp opAdd (eVar 1) (eSl (eVar 1) (oSome (eUn uNeg (eC (.int 1)))) oNone)))
  sNext)
  (sSeq (sIf (tOfE (eOp cEq (eVar 2) (eC (.str "drop"))))
  (sRet (eSl (eVar 1) oNone (oSome (eUn uNeg (eC (.int 1))))))
  sNext)
  (sSeq (sIf (tOfE (eOp cEq (eVar 2) (eC (.str "swap"))))
  (sRet (eOp opAdd (eSl (eVar 1) oNone (oSome (eUn uNeg (eC (.int 2))))) (eTup (aCons (eOp opIx (eVar 1) (eUn uNeg (eC (.int 1)))) (aCons (eOp opIx (eVar 1) (eUn uNeg (eC (.int 2)))) aNil)))))
  sNext)
  (sSeq (sIf (tOfE (eOp cEq (eVar 2) (eC (.str "over"))))
  (sRet (eOp opAdd (eVar 1) (eTup (aCons (eOp opIx (eVar 1) (eUn uNeg (eC (.int 2)))) aNil))))
  sNext)
  (sRet (eOp opAdd (eSl (eVar 1) oNone (oSome (eUn uNeg (eC (.int 3))))) (eTup (aCons (eOp opIx (eVar 1) (eUn uNeg (eC (.int 2)))) (aCons (eOp opIx (eVar 1) (eUn uNeg (eC (.int 1)))) (aCons (eOp opIx (eVar 1) (eUn uNeg (eC (.int 3)))) aNil)))))))))))))
def fn_layout_step : Fn := runFn sh_layout_step 3
def g_layout_step : GF := ⟨fn_layout_step, 2, []⟩
def sh_after_steps_1 : SF := (sRet (eVar 2))
def sh_after_steps_0b_3 : SF := (sSet 1 (eOp opAdd (eVar 1) (eC (.int 1))))
def sh_after_steps_0b_2 : SF := (sSeq (sIf (tOfE (eOp cIs (eVar 2) (eC (.non))))
  (sRet (eC (.non)))
  sNext)
  sh_after_steps_0b_3)
def sh_after_steps_0b_1 : SF := (sSeq (sSet 2 (eCall g_layout_step (aCons (eOp opIx (eVar 0) (eVar 1)) (aCons (eVar 2) aNil))))
  sh_after_steps_0b_2)
def sh_after_steps_0b_0 : SF := (sSeq (sIf (tOfE (eOp cGt (eVar 1) (eVar 3)))
  (sRet (eC (.non)))
  sNext)
  sh_after_steps_0b_1)
def sh_after_steps_0 : SF := (sSeq (sWhile (tOfE (eOp cNe (eVar 1) (eVar 3)))
  sh_after_steps_0b_0)
  sh_after_steps_1)
def sh_after_steps : SF := sh_after_steps_0
def fn_after_steps : Fn := runFn sh_after_steps 4
def g_after_steps : GF := ⟨fn_after_steps, 4, []⟩
def sh__law_items : SF := (sRet (eCB bTuple (aCons (eLc (iVal (eVar 0)) (gNm 2) tYesF (eIf (tOfE (eOp cEq (eOp opIx (eVar 2) (eC (.int 0))) (eC (.str "reg")))) (eOp opIx (eVar 1) (eOp opMod (eCB bInt (aCons (eOp opIx (eVar 2) (eC (.int 1))) aNil)) (eC (.int 8)))) (eVar 2)) [2]) aNil)))
def fn__law_items : Fn := runFn sh__law_items 3
def g__law_items : GF := ⟨fn__law_items, 2, []⟩
def sh__law_pick : SF := (sSeq (sSub (eOp opAdd (eOp opIx (eVar 0) (eC (.str "count"))) (eC (.int 1))) (eVar 0) (eC (.str "count")))
  (sSeq (sIf (tOfE (eOp cGt (eOp opIx (eVar 0) (eC (.str "rest"))) (eC (.int 0))))
  (sSeq (sSet 3 (eOp opMod (eCB bInt (aCons (eOp opIx (eVar 0) (eC (.str "rest"))) aNil)) (eVar 1)))
  (sSeq (sSub (eOp opFdiv (eOp opIx (eVar 0) (eC (.str "rest"))) (eVar 1)) (eVar 0) (eC (.str "rest")))
  (sRet (eVar 3))))
  sNext)
  (sSeq (sIf (tOfE (eOp cLt (eOp opIx (eVar 0) (eC (.str "at"))) (eCB bLen (aCons (eOp opIx (eVar 0) (eC (.str "cells"))) aNil))))
  (sSeq (sSet 4 (eOp opIx (eOp opIx (eVar 0) (eC (.str "cells"))) (eOp opIx (eVar 0) (eC (.str "at")))))
  (sSeq (sSub (eOp opAdd (eOp opIx (eVar 0) (eC (.str "at"))) (eC (.int 1))) (eVar 0) (eC (.str "at")))
  (sSeq (sIf (tOfE (eOp cGe (eVar 4) (eC (.int 1000000000000000000))))
  (sSeq (sSub (eOp opFdiv (eVar 4) (eVar 1)) (eVar 0) (eC (.str "rest")))
  (sRet (eOp opMod (eCB bInt (aCons (eVar 4) aNil)) (eVar 1))))
  sNext)
  (sSub (eOp opMod (eCB bInt (aCons (eOp opAdd (eOp opAdd (eOp opIx (eVar 0) (eC (.str "seed"))) (eOp opMul (eVar 4) (eC (.int 7919)))) (eC (.int 104729))) aNil)) (eC (.int 2147483647))) (eVar 0) (eC (.str "seed"))))))
  sNext)
  (sSeq (sSub (eOp opMod (eCB bInt (aCons (eOp opAdd (eOp opAdd (eOp opMul (eOp opIx (eVar 0) (eC (.str "seed"))) (eC (.int 48271))) (eOp opMul (eOp opIx (eVar 0) (eC (.str "count"))) (eC (.int 69621)))) (eC (.int 11))) aNil)) (eC (.int 2147483647))) (eVar 0) (eC (.str "seed")))
  (sSeq (sSet 2 (eOp opMod (eCB bInt (aCons (eOp opAdd (eOp opMul (eOp opIx (eVar 0) (eC (.str "seed"))) (eC (.int 16807))) (eOp opMul (eOp opIx (eVar 0) (eC (.str "count"))) (eC (.int 40014)))) aNil)) (eC (.int 2147483629))))
  (sRet (eOp opMod (eCB bInt (aCons (eOp opFdiv (eVar 2) (eC (.int 97))) aNil)) (eVar 1))))))))
def fn__law_pick : Fn := runFn sh__law_pick 5
def g__law_pick : GF := ⟨fn__law_pick, 2, []⟩
def sh__law_moved_4 : SF := (sRet (eC (.bl true)))
def sh__law_moved_3 : SF := (sSeq (sIf (tOfE (eOp cIn (eVar 2) (eTup (aCons (eC (.str "swap")) (aCons (eC (.str "rot")) aNil)))))
  (sSeq (sSet 3 (eBM .list mPop (eVar 1) (aCons (eOp opSub (eCB bLen (aCons (eVar 1) aNil)) (eIf (tOfE (eOp cEq (eVar 2) (eC (.str "swap")))) (eC (.int 2)) (eC (.int 3)))) aNil)))
  (sExpr (eBM .list mAppend (eVar 1) (aCons (eVar 3) aNil))))
  (sIf (tOfE (eOp cEq (eVar 2) (eC (.str "drop"))))
  (sExpr (eBM .list mPop (eVar 1) aNil))
  (sExpr (eBM .list mAppend (eVar 1) (aCons (eOp opIx (eVar 1) (eOp opSub (eCB bLen (aCons (eVar 1) aNil)) (eIf (tOfE (eOp cEq (eVar 2) (eC (.str "dup")))) (eC (.int 1)) (eC (.int 2))))) aNil)))))
  sh__law_moved_4)
def sh__law_moved_2 : SF := (sSeq (sIf (tOrF (tOfE (eOp cNotIn (eVar 2) (eTup (aCons (eC (.str "dup")) (aCons (eC (.str "drop")) (aCons (eC (.str "swap")) (aCons (eC (.str "over")) (aCons (eC (.str "rot")) aNil)))))))) (tOfE (eOp cLt (eCB bLen (aCons (eVar 1) aNil)) (eOp opAdd (eOp opFdiv (eBM .list mIndex (eLst (aCons (eC (.str "drop")) (aCons (eC (.str "dup")) (aCons (eC (.str "swap")) (aCons (eC (.str "over")) (aCons (eC (.str "rot")) aNil)))))) (aCons (eVar 2) aNil)) (eC (.int 2))) (eC (.int 1))))))
  (sRet (eC (.bl false)))
  sNext)
  sh__law_moved_3)
def sh__law_moved_1 : SF := (sSeq (sIf (tOfE (eOp cIn (eVar 2) (eTup (aCons (eC (.str "lit")) (aCons (eC (.str "data")) (aCons (eC (.str "token")) aNil))))))
  (sSeq (sExpr (eBM .list mAppend (eVar 1) (aCons (eTup (aCons (eVar 2) (aCons (eOp opIx (eVar 0) (eC (.int 1))) aNil))) aNil)))
  (sRet (eC (.bl true))))
  sNext)
  sh__law_moved_2)
def sh__law_moved_0 : SF := (sSeq (sSet 2 (eOp opIx (eVar 0) (eC (.int 0))))
  sh__law_moved_1)
def sh__law_moved : SF := sh__law_moved_0
def fn__law_moved : Fn := runFn sh__law_moved 4
def g__law_moved : GF := ⟨fn__law_moved, 2, []⟩
def sh__law_due_1 : SF := (sRet (eC (.non)))
def sh__law_due_0b_2 : SF := (sSet 1 (eOp opAdd (eVar 1) (eC (.int 1))))
def sh__law_due_0b_1 : SF := (sSeq (sIf (tOrF (tOfE (eOp cGt (eVar 1) (eVar 3))) (tNotF (tTruF (eCall g__law_moved (aCons (eOp opIx (eVar 0) (eVar 1)) (aCons (eVar 2) aNil))))))
  (sRet (eC (.non)))
  sNext)
  sh__law_due_0b_2)
def sh__law_due_0b_0 : SF := (sSeq (sIf (tOfE (eOp cEq (eVar 1) (eVar 3)))
  (sRet (eCB bTuple (aCons (eVar 2) aNil)))
  sNext)
  sh__law_due_0b_1)
def sh__law_due_0 : SF := (sSeq (sFor (iRange (aCons (eOp opAdd (eCB bLen (aCons (eVar 0) aNil)) (eC (.int 1))) aNil)) (gNm 4)
  sh__law_due_0b_0)
  sh__law_due_1)
def sh__law_due : SF := sh__law_due_0
def fn__law_due : Fn := runFn sh__law_due 5
def g__law_due : GF := ⟨fn__law_due, 4, []⟩
def sh__law_choice : SF := (sRet (eOp opIx (eVar 1) (eCall g__law_pick (aCons (eVar 0) (aCons (eCB bLen (aCons (eVar 1) aNil)) aNil)))))
def fn__law_choice : Fn := runFn sh__law_choice 2
def g__law_choice : GF := ⟨fn__law_choice, 2, []⟩
def sh__law_source : SF := (sSeq (sSet 1 (eCall g__law_pick (aCons (eVar 0) (aCons (eC (.int 6)) aNil))))
  (sSeq (sIf (tOfE (eOp cLt (eVar 1) (eC (.int 3))))
  (sRet (eTup (aCons (eC (.str "reg")) (aCons (eCall g__law_pick (aCons (eVar 0) (aCons (eC (.int 8)) aNil))) aNil))))
  sNext)
  (sRet (eOp opIx (eLst (aCons (eTup (aCons (eC (.str "lit")) (aCons (eOp opSub (eCall g__law_pick (aCons (eVar 0) (aCons (eC (.int 40)) aNil))) (eC (.int 20))) aNil))) (aCons (eTup (aCons (eC (.str "data")) (aCons (eCall g__law_pick (aCons (eVar 0) (aCons (eC (.int 2049)) aNil))) aNil))) (aCons (eTup (aCons (eC (.str "token")) (aCons (eCall g__law_pick (aCons (eVar 0) (aCons (eC (.int 400)) aNil))) aNil))) aNil)))) (eOp opSub (eVar 1) (eC (.int 3)))))))
def fn__law_source : Fn := runFn sh__law_source 2
def g__law_source : GF := ⟨fn__law_source, 1, []⟩
def sh__law_instruction : SF := (sSeq (sSet 3 (eCall g__law_pick (aCons (eVar 0) (aCons (eVar 2) aNil))))
  (sSeq (sIf (tOfE (eOp cEq (eVar 3) (eC (.int 0))))
  (sRet (eCall g__law_choice (aCons (eVar 0) (aCons (eLst (aCons (eTup (aCons (eC (.str "+")) (aCons (eC (.int 0)) aNil))) (aCons (eTup (aCons (eC (.str ">r")) (aCons (eC (.int 0)) aNil))) (aCons (eTup (aCons (eC (.str "ask")) (aCons (eC (.int 0)) aNil))) (aCons (eTup (aCons (eC (.str "unless")) (aCons (eCall g__law_pick (aCons (eVar 0) (aCons (eVar 1) aNil))) aNil))) (aCons (eTup (aCons (eC (.str "throw")) (aCons (eC (.int 0)) aNil))) (aCons (eTup (aCons (eC (.str "goto")) (aCons (eCall g__law_pick (aCons (eVar 0) (aCons (eVar 1) aNil))) aNil))) (aCons (eTup (aCons (eC (.str "call")) (aCons (eC (.int 0)) aNil))) (aCons (eTup (aCons (eC (.str "exit")) (aCons (eC (.int 0)) aNil))) (aCons (eTup (aCons (eC (.str "run")) (aCons (eTup (aCons (eC (.int 1)) (aCons (eC (.int 1)) aNil))) aNil))) aNil)))))))))) aNil))))
  sNext)
  (sSeq (sIf (tOfE (eOp cLt (eVar 3) (eC (.int 3))))
  (sRet (eOp opIx (eLst (aCons (eTup (aCons (eC (.str "lit")) (aCons (eOp opSub (eCall g__law_pick (aCons (eVar 0) (aCons (eC (.int 40)) aNil))) (eC (.int 20))) aNil))) (aCons (eTup (aCons (eC (.str "data")) (aCons (eCall g__law_pick (aCons (eVar 0) (aCons (eC (.int 2049)) aNil))) aNil))) (aCons (eTup (aCons (eC (.str "token")) (aCons (eCall g__law_pick (aCons (eVar 0) (aCons (eC (.int 300)) aNil))) aNil))) aNil)))) (eCall g__law_pick (aCons (eVar 0) (aCons (eC (.int 3)) aNil)))))
  sNext)
  (sRet (eTup (aCons (eCall g__law_choice (aCons (eVar 0) (aCons (eLst (aCons (eC (.str "dup")) (aCons (eC (.str "drop")) (aCons (eC (.str "swap")) (aCons (eC (.str "over")) (aCons (eC (.str "rot")) (aCons (eC (.str "rot")) (aCons (eC (.str "swap")) aNil)))))))) aNil))) (aCons (eC (.int 0)) aNil)))))))
def fn__law_instruction : Fn := runFn sh__law_instruction 4
def g__law_instruction : GF := ⟨fn__law_instruction, 3, []⟩
def sh__law_body_5 : SF := (sRet (eCB bTuple (aCons (eVar 3) aNil)))
def sh__law_body_4 : SF := (sSeq (sExpr (eBM .list mAppend (eVar 3) (aCons (eCall g__law_choice (aCons (eVar 0) (aCons (eLst (aCons (eTup (aCons (eC (.str "exit")) (aCons (eC (.int 0)) aNil))) (aCons (eTup (aCons (eC (.str "goto")) (aCons (eCall g__law_pick (aCons (eVar 0) (aCons (eVar 1) aNil))) aNil))) (aCons (eTup (aCons (eC (.str "jump")) (aCons (eC (.int 0)) aNil))) aNil)))) aNil))) aNil)))
  sh__law_body_5)
def sh__law_body_3 : SF := (sSeq (sSet 3 (eLc (iRange (aCons (eOp opSub (eVar 1) (eC (.int 1))) aNil)) (gNm 4) tYesF (eCall g__law_instruction (aCons (eVar 0) (aCons (eVar 1) (aCons (eVar 2) aNil)))) [4]))
  sh__law_body_4)
def sh__law_body_2 : SF := (sSeq (sSet 2 (eOp opIx (eLst (aCons (eC (.int 5)) (aCons (eC (.int 12)) (aCons (eC (.int 30)) aNil)))) (eCall g__law_pick (aCons (eVar 0) (aCons (eC (.int 3)) aNil)))))
  sh__law_body_3)
def sh__law_body_1 : SF := (sSeq (sIf (tOfE (eOp cEq (eCall g__law_pick (aCons (eVar 0) (aCons (eC (.int 3)) aNil))) (eC (.int 0))))
  (sSet 1 (eOp opAdd (eC (.int 1)) (eCall g__law_pick (aCons (eVar 0) (aCons (eC (.int 6)) aNil)))))
  sNext)
  sh__law_body_2)
def sh__law_body_0 : SF := (sSeq (sSet 1 (eOp opAdd (eC (.int 1)) (eCall g__law_pick (aCons (eVar 0) (aCons (eC (.int 40)) aNil)))))
  sh__law_body_1)
def sh__law_body : SF := sh__law_body_0
def fn__law_body : Fn := runFn sh__law_body 5
def g__law_body : GF := ⟨fn__law_body, 1, []⟩
def sh__law_bag : SF := (sRet (eDct [((eC (.str "cells")), (eLc (iVal (eVar 0)) (gNm 1) tYesF (eCB bInt (aCons (eVar 1) aNil)) [1])), ((eC (.str "at")), (eC (.int 0))), ((eC (.str "rest")), (eC (.int 0))), ((eC (.str "seed")), (eC (.int 20011))), ((eC (.str "count")), (eC (.int 0)))]))
def fn__law_bag : Fn := runFn sh__law_bag 2
def g__law_bag : GF := ⟨fn__law_bag, 1, []⟩
def sh_law_2 : SF := (sRet (eC (.bl true)))
def sh_law_1b_16 : SF := (sIf (tNotF (tTruF (eCall g__law_same (aCons (eCall g_after_steps (aCons (eVar 3) (aCons (eVar 6) (aCons (eVar 4) (aCons (eVar 7) aNil))))) (aCons (eVar 8) aNil)))))
  (sRet (eC (.bl false)))
  sNext)
def sh_law_1b_15 : SF := (sSeq (sIf (tOrF (tOfE (eOp cNe (eOp cIs (eVar 13) (eC (.non))) (eOp cIs (eVar 8) (eC (.non))))) (tAndF (tOfE (eOp cIsNot (eVar 8) (eC (.non)))) (tOfE (eOp cNe (eVar 13) (eCall g__law_items (aCons (eVar 8) (aCons (eVar 12) aNil)))))))
  (sRet (eC (.bl false)))
  sNext)
  sh_law_1b_16)
def sh_law_1b_14 : SF := (sSeq (sSet 13 (eCall g_after_steps (aCons (eVar 3) (aCons (eVar 6) (aCons (eCall g__law_items (aCons (eVar 4) (aCons (eVar 12) aNil))) (aCons (eVar 7) aNil))))))
  sh_law_1b_15)
def sh_law_1b_13 : SF := (sSeq (sSet 12 (eLc (iRange (aCons (eC (.int 8)) aNil)) (gNm 14) tYesF (eTup (aCons (eC (.str "lit")) (aCons (eOp opAdd (eOp opAdd (eC (.int 5000)) (eCall g__law_pick (aCons (eVar 1) (aCons (eC (.int 90)) aNil)))) (eOp opMul (eC (.int 100)) (eVar 14))) aNil))) [14]))
  sh_law_1b_14)
def sh_law_1b_12 : SF := (sSeq (sIf (tAndF (tOfE (eOp cIsNot (eVar 8) (eC (.non)))) (tNotF (tTruF (eCall g__law_same (aCons (eCall g_after_steps (aCons (eVar 3) (aCons (eVar 10) (aCons (eVar 11) (aCons (eVar 7) aNil))))) (aCons (eVar 8) aNil))))))
  (sRet (eC (.bl false)))
  sNext)
  sh_law_1b_13)
def sh_law_1b_11 : SF := (sSeq (sIf (tNotF (tTruF (eCall g__law_same (aCons (eVar 11) (aCons (eCall g__law_due (aCons (eVar 3) (aCons (eVar 6) (aCons (eCB bList (aCons (eVar 4) aNil)) (aCons (eVar 10) aNil))))) aNil)))))
  (sRet (eC (.bl false)))
  sNext)
  sh_law_1b_12)
def sh_law_1b_10 : SF := (sSeq (sSet 11 (eCall g_after_steps (aCons (eVar 3) (aCons (eVar 6) (aCons (eVar 4) (aCons (eVar 10) aNil))))))
  sh_law_1b_11)
def sh_law_1b_9 : SF := (sSeq (sSet 10 (eOp opAdd (eVar 6) (eCall g__law_pick (aCons (eVar 1) (aCons (eCB bMax (aCons (eC (.int 1)) (aCons (eOp opAdd (eOp opSub (eVar 7) (eVar 6)) (eC (.int 1))) aNil))) aNil)))))
  sh_law_1b_10)
def sh_law_1b_8 : SF := (sSeq (sIf (tOrF (tNotF (tTruF (eCall g__law_same (aCons (eVar 9) (aCons (eVar 8) aNil))))) (tNotF (tTruF (eCall g__law_same (aCons (eCall g_after_steps (aCons (eVar 3) (aCons (eVar 7) (aCons (eVar 4) (aCons (eVar 7) aNil))))) (aCons (eVar 4) aNil))))))
  (sRet (eC (.bl false)))
  sNext)
  sh_law_1b_9)
def sh_law_1b_7 : SF := (sSeq (sSet 9 (eCall g_after_steps (aCons (eVar 3) (aCons (eVar 6) (aCons (eVar 4) (aCons (eVar 7) aNil))))))
  sh_law_1b_8)
def sh_law_1b_6 : SF := (sSeq (sSet 8 (eCall g__law_due (aCons (eVar 3) (aCons (eVar 6) (aCons (eCB bList (aCons (eVar 4) aNil)) (aCons (eVar 7) aNil))))))
  sh_law_1b_7)
def sh_law_1b_5 : SF := (sSeq (sIf (tOfE (eOp cEq (eCall g__law_pick (aCons (eVar 1) (aCons (eC (.int 7)) aNil))) (eC (.int 0))))
  (sSeq (sSet 6 (eCB bMax (aCons (eVar 5) aNil)))
  (sSet 7 (eCB bMin (aCons (eVar 5) aNil))))
  sNext)
  sh_law_1b_6)
def sh_law_1b_4 : SF := (sSeq (sSet 7 (eIf (tOfE (eOp cEq (eCall g__law_pick (aCons (eVar 1) (aCons (eC (.int 2)) aNil))) (eC (.int 0)))) (eCB bMin (aCons (eOp opSub (eCB bLen (aCons (eVar 3) aNil)) (eC (.int 1))) (aCons (eOp opAdd (eVar 6) (eCall g__law_pick (aCons (eVar 1) (aCons (eC (.int 6)) aNil)))) aNil))) (eCB bMax (aCons (eVar 5) aNil))))
  sh_law_1b_5)
def sh_law_1b_3 : SF := (sSeq (sSet 6 (eCB bMin (aCons (eVar 5) aNil)))
  sh_law_1b_4)
def sh_law_1b_2 : SF := (sSeq (sSet 5 (eLst (aCons (eCall g__law_pick (aCons (eVar 1) (aCons (eCB bLen (aCons (eVar 3) aNil)) aNil))) (aCons (eCall g__law_pick (aCons (eVar 1) (aCons (eCB bLen (aCons (eVar 3) aNil)) aNil))) aNil))))
  sh_law_1b_3)
def sh_law_1b_1 : SF := (sSeq (sSet 4 (eCB bTuple (aCons (eLc (iRange (aCons (eCall g__law_choice (aCons (eVar 1) (aCons (eLst (aCons (eC (.int 0)) (aCons (eC (.int 1)) (aCons (eC (.int 2)) (aCons (eC (.int 3)) (aCons (eC (.int 4)) (aCons (eC (.int 5)) (aCons (eC (.int 12)) aNil)))))))) aNil))) aNil)) (gNm 14) tYesF (eCall g__law_source (aCons (eVar 1) aNil)) [14]) aNil)))
  sh_law_1b_2)
def sh_law_1b_0 : SF := (sSeq (sSet 3 (eCall g__law_body (aCons (eVar 1) aNil)))
  sh_law_1b_1)
def sh_law_1 : SF := (sSeq (sFor (iRange (aCons (eC (.int 3)) aNil)) (gNm 2)
  sh_law_1b_0)
  sh_law_2)
def sh_law_0 : SF := (sSeq (sSet 1 (eCall g__law_bag (aCons (eVar 0) aNil)))
  sh_law_1)
def sh_law : SF := sh_law_0
def fn_law : Fn := runFn sh_law 15
def g_law : GF := ⟨fn_law, 1, []⟩
end K45

set_option Elab.async false
set_option linter.all false
set_option maxRecDepth 100000
set_option maxHeartbeats 4000000
namespace K45
open PySem L2 PyProof.Rows Sh
/-! ### the law's bag -/
structure Bg where
  at_ : Int
  rest : Int
  seed : Int
  count : Int
def bagK (g : Bg) : List (Key × AV) := [(.inr "cells", .ref 0), (.inr "at", .int g.at_), (.inr "rest", .int g.rest), (.inr "seed", .int g.seed), (.inr "count", .int g.count)]
def hp (ns : List Int) (g : Bg) (T : AH) : AH := .lst (ns.map .int) :: .dct (bagK g) :: T
section
variable {ns : List Int} {g : Bg} {T : AH}
@[simp] theorem ix_cells : opIx (.ref 1) (.str "cells") (hp ns g T) = .ok (.ref 0) (hp ns g T) := by rfl
@[simp] theorem ix_at : opIx (.ref 1) (.str "at") (hp ns g T) = .ok (.int g.at_) (hp ns g T) := by rfl
@[simp] theorem ix_rest : opIx (.ref 1) (.str "rest") (hp ns g T) = .ok (.int g.rest) (hp ns g T) := by rfl
@[simp] theorem ix_seed : opIx (.ref 1) (.str "seed") (hp ns g T) = .ok (.int g.seed) (hp ns g T) := by rfl
@[simp] theorem ix_count : opIx (.ref 1) (.str "count") (hp ns g T) = .ok (.int g.count) (hp ns g T) := by rfl
@[simp] theorem set_at {v : Int} : opSet (.ref 1) (.str "at") (.int v) (hp ns g T) = some (hp ns { g with at_ := v } T) := by rfl
@[simp] theorem set_rest {v : Int} : opSet (.ref 1) (.str "rest") (.int v) (hp ns g T) = some (hp ns { g with rest := v } T) := by rfl
@[simp] theorem set_seed {v : Int} : opSet (.ref 1) (.str "seed") (.int v) (hp ns g T) = some (hp ns { g with seed := v } T) := by rfl
@[simp] theorem set_count {v : Int} : opSet (.ref 1) (.str "count") (.int v) (hp ns g T) = some (hp ns { g with count := v } T) := by rfl
@[simp] theorem len_cells : bLen [.ref 0] (hp ns g T) = .ok (.int ns.length) (hp ns g T) := by
  show Res.ok (AV.int ((ns.map AV.int).length : Nat)) _ = _
  rw [List.length_map]
theorem ix_cell {i : Int} (h : 0 ≤ i) (h2 : i < ns.length) : ∃ c, opIx (.ref 0) (.int i) (hp ns g T) = .ok (.int c) (hp ns g T) := by
  obtain ⟨k, rfl⟩ : ∃ k : Nat, i = k := ⟨i.toNat, by omega⟩
  have hk : k < ns.length := by omega
  refine ⟨ns[k], ?_⟩
  exact atA_get h (by simp [hk])
theorem pick_fin {m x : Int} {r : Res AV} {G : Bg} (h : 0 < m) (ok : 0 ≤ G.at_) (e : r = .ok (.int (x % m)) (hp ns G T)) : ∃ d g', 0 ≤ d ∧ d < m ∧ 0 ≤ g'.at_ ∧ r = .ok (.int d) (hp ns g' T) :=
  ⟨x % m, G, Int.emod_nonneg _ (by omega), Int.emod_lt_of_pos _ h, ok, e⟩
theorem pick {m : Int} (h : 0 < m) (h2 : m < 1073741824) (ok : 0 ≤ g.at_) : ∃ d g', 0 ≤ d ∧ d < m ∧ 0 ≤ g'.at_ ∧ fn__law_pick [.ref 1, .int m] (hp ns g T) = .ok (.int d) (hp ns g' T) := by
  have m1 : small64 48271 = true := by decide
  have m2 : small64 69621 = true := by decide
  have m3 : small64 16807 = true := by decide
  have m4 : small64 40014 = true := by decide
  have m5 : small64 7919 = true := by decide
  by_cases r : 0 < g.rest
  · refine ⟨g.rest % m, ⟨g.at_, g.rest / m, g.seed, g.count + 1⟩, Int.emod_nonneg _ (by omega), Int.emod_lt_of_pos _ h, ok, ?_⟩
    simp [fn__law_pick, runFn, sh__law_pick, r, h, h2]
  · by_cases a : g.at_ < ns.length
    · obtain ⟨c, e⟩ := ix_cell (ns := ns) (g := ⟨g.at_, g.rest, g.seed, g.count + 1⟩) (T := T) ok a
      by_cases z : 1000000000000000000 ≤ c
      · refine ⟨c % m, ⟨g.at_ + 1, c / m, g.seed, g.count + 1⟩, Int.emod_nonneg _ (by omega), Int.emod_lt_of_pos _ h, by simp; omega, ?_⟩
        simp [fn__law_pick, runFn, sh__law_pick, r, h, h2, a, e, z]
      · refine pick_fin (x := (((g.seed + c * 7919 + 104729) % 2147483647 * 48271 + (g.count + 1) * 69621 + 11) % 2147483647 * 16807 + (g.count + 1) * 40014) % 2147483629 / 97) (G := ⟨g.at_ + 1, g.rest, ((g.seed + c * 7919 + 104729) % 2147483647 * 48271 + (g.count + 1) * 69621 + 11) % 2147483647, g.count + 1⟩) h (by show 0 ≤ g.at_ + 1; omega) ?e
        case e =>
          simp [fn__law_pick, runFn, sh__law_pick, r, h, h2, a, e, z, m1, m2, m3, m4, m5]
    · refine pick_fin (x := ((g.seed * 48271 + (g.count + 1) * 69621 + 11) % 2147483647 * 16807 + (g.count + 1) * 40014) % 2147483629 / 97) (G := ⟨g.at_, g.rest, (g.seed * 48271 + (g.count + 1) * 69621 + 11) % 2147483647, g.count + 1⟩) h ok ?e
      case e =>
        simp [fn__law_pick, runFn, sh__law_pick, r, h, h2, a, m1, m2, m3, m4, m5]
end
end K45

set_option Elab.async false
set_option linter.all false
set_option maxRecDepth 100000
set_option maxHeartbeats 4000000
namespace K45
open PySem L2 PyProof.Rows Sh
section
variable {ns : List Int} {g : Bg} {T : AH}
@[simp] theorem hp_len : (hp ns g T).length = T.length + 2 := rfl
@[simp] theorem hp_app {U : AH} : hp ns g T ++ U = hp ns g (T ++ U) := rfl
@[simp] theorem hp_lst {k : Nat} : AH.lst? (hp ns g T) (k + 2) = AH.lst? T k := rfl
@[simp] theorem hp_set {k : Nat} {o : AO} : List.set (hp ns g T) (k + 2) o = hp ns g (T.set k o) := rfl
@[simp] theorem sq_ref {A : AH} {k : Nat} : sq? (.ref k) A = A.lst? k := rfl
theorem ix_lst {k : Nat} {xs : List AV} {i : Int} {A : AH} {v : AV} (e : A.lst? k = some xs) (h : 0 ≤ i) (hv : xs[i.toNat]? = some v) : opIx (.ref k) (.int i) A = .ok v A := by
  simp only [opIx, e]
  exact atA_get h hv
theorem len_lst {k : Nat} {xs : List AV} {A : AH} (e : A.lst? k = some xs) : bLen [.ref k] A = .ok (.int xs.length) A := by
  unfold bLen
  simp only [sq_ref, e]
theorem choice {k : Nat} {xs : List AV} (e : AH.lst? T k = some xs) (h : 0 < xs.length) (h2 : xs.length < 1000000000) (ok : 0 ≤ g.at_) : ∃ v g', v ∈ xs ∧ 0 ≤ g'.at_ ∧ fn__law_choice [.ref 1, .ref (k + 2)] (hp ns g T) = .ok v (hp ns g' T) := by
  obtain ⟨d, g', d1, d2, ok', e1⟩ := pick (ns := ns) (g := g) (T := T) (m := xs.length) (by omega) (by omega) ok
  have hd : d.toNat < xs.length := by omega
  refine ⟨xs[d.toNat], g', List.getElem_mem hd, ok', ?_⟩
  have e2 := len_lst (A := hp ns g T) (k := k + 2) e
  have e3 := ix_lst (A := hp ns g' T) (k := k + 2) e d1 (List.getElem?_eq_getElem hd)
  simp [fn__law_choice, runFn, sh__law_choice, g__law_pick, e1, e2, e3]
/-! ### the instructions -/
def t3 : AV := .tup [.str "lit", .str "data", .str "token"]
def t5 : AV := .tup [.str "dup", .str "drop", .str "swap", .str "over", .str "rot"]
def Oth (op : Str) : Prop := ∀ A, cNotIn (.str op) c_LAYOUT A = .ok (.bl true) A ∧ cIn (.str op) t3 A = .ok (.bl false) A ∧ cNotIn (.str op) t5 A = .ok (.bl true) A
def Row (r : AV) : Prop := (∃ op n, (op = "lit" ∨ op = "data" ∨ op = "token") ∧ r = .tup [.str op, .int n]) ∨ (∃ op v, (op = "dup" ∨ op = "drop" ∨ op = "swap" ∨ op = "over" ∨ op = "rot") ∧ r = .tup [.str op, v]) ∨ (∃ op v, Oth op ∧ r = .tup [.str op, v])
theorem lst_end {xs : List AV} : AH.lst? (T ++ [.lst xs]) T.length = some xs := lst_last
theorem sz2 : 2 ≤ sizeLine := by decide
theorem instruction {m r : Int} (hm : 0 < m) (hm2 : m < 1000000) (hr : 0 < r) (hr2 : r < 1000000) (ok : 0 ≤ g.at_) : ∃ v g' T', Row v ∧ 0 ≤ g'.at_ ∧ fn__law_instruction [.ref 1, .int m, .int r] (hp ns g T) = .ok v (hp ns g' T') := by
  have z1 : 1 ≤ sizeLine := by decide
  have z2 : 2 ≤ sizeLine := by decide
  have z3 : 3 ≤ sizeLine := by decide
  have z7 : 7 ≤ sizeLine := by decide
  have z9 : 9 ≤ sizeLine := by decide
  obtain ⟨d, g1, d1, d2, ok1, e1⟩ := pick (ns := ns) (g := g) (T := T) hr (by omega) ok
  by_cases h0 : d = 0
  · obtain ⟨a, g2, a1, a2, ok2, e2⟩ := pick (ns := ns) (g := g1) (T := T) hm (by omega) ok1
    obtain ⟨b, g3, b1, b2, ok3, e3⟩ := pick (ns := ns) (g := g2) (T := T) hm (by omega) ok2
    obtain ⟨v, g4, hv, ok4, e4⟩ := choice (ns := ns) (g := g3) (k := T.length) (T := T ++ [.lst [.tup [.str "+", .int 0], .tup [.str ">r", .int 0], .tup [.str "ask", .int 0], .tup [.str "unless", .int a], .tup [.str "throw", .int 0], .tup [.str "goto", .int b], .tup [.str "call", .int 0], .tup [.str "exit", .int 0], .tup [.str "run", .tup [.int 1, .int 1]]]]) lst_end (by simp) (by simp) ok3
    refine ⟨v, g4, T ++ [.lst [.tup [.str "+", .int 0], .tup [.str ">r", .int 0], .tup [.str "ask", .int 0], .tup [.str "unless", .int a], .tup [.str "throw", .int 0], .tup [.str "goto", .int b], .tup [.str "call", .int 0], .tup [.str "exit", .int 0], .tup [.str "run", .tup [.int 1, .int 1]]]], ?_, ok4, ?e⟩
    case e =>
      simp [fn__law_instruction, runFn, sh__law_instruction, g__law_pick, g__law_choice, e1, e2, e3, e4, h0, z2, z9]
    · refine .inr (.inr ?_)
      simp only [List.mem_cons, List.not_mem_nil, or_false] at hv
      rcases hv with h | h | h | h | h | h | h | h | h <;> exact ⟨_, _, fun A => ⟨rfl, rfl, rfl⟩, h⟩
  · by_cases h3 : d < 3
    · obtain ⟨a, g2, a1, a2, ok2, e2⟩ := pick (ns := ns) (g := g1) (T := T) (m := 40) (by omega) (by omega) ok1
      obtain ⟨b, g3, b1, b2, ok3, e3⟩ := pick (ns := ns) (g := g2) (T := T) (m := 2049) (by omega) (by omega) ok2
      obtain ⟨c, g4, c1, c2, ok4, e4⟩ := pick (ns := ns) (g := g3) (T := T) (m := 300) (by omega) (by omega) ok3
      obtain ⟨i, g5, i1, i2, ok5, e5⟩ := pick (ns := ns) (g := g4) (T := T ++ [.lst [.tup [.str "lit", .int (a - 20)], .tup [.str "data", .int b], .tup [.str "token", .int c]]]) (m := 3) (by omega) (by omega) ok4
      have hi : i.toNat < [AV.tup [.str "lit", .int (a - 20)], .tup [.str "data", .int b], .tup [.str "token", .int c]].length := by simp; omega
      have e6 := ix_lst (A := hp ns g5 (T ++ [.lst [.tup [.str "lit", .int (a - 20)], .tup [.str "data", .int b], .tup [.str "token", .int c]]])) (k := T.length + 2) lst_end i1 (List.getElem?_eq_getElem hi)
      refine ⟨[AV.tup [.str "lit", .int (a - 20)], .tup [.str "data", .int b], .tup [.str "token", .int c]][i.toNat], g5, T ++ [.lst [.tup [.str "lit", .int (a - 20)], .tup [.str "data", .int b], .tup [.str "token", .int c]]], ?_, ok5, ?e⟩
      case e =>
        simp only [fn__law_instruction, runFn, sh__law_instruction, g__law_pick, g__law_choice]
        simp [e1, e2, e3, e4, e5, h0, h3, z2, z3]
        rw [e6]
        rfl
      · have hv := List.getElem_mem hi
        simp only [List.mem_cons, List.not_mem_nil, or_false] at hv
        rcases hv with h | h | h <;> rw [h]
        · exact .inl ⟨_, _, .inl rfl, rfl⟩
        · exact .inl ⟨_, _, .inr (.inl rfl), rfl⟩
        · exact .inl ⟨_, _, .inr (.inr rfl), rfl⟩
    · obtain ⟨v, g4, hv, ok4, e4⟩ := choice (ns := ns) (g := g1) (k := T.length) (T := T ++ [.lst [.str "dup", .str "drop", .str "swap", .str "over", .str "rot", .str "rot", .str "swap"]]) lst_end (by simp) (by simp) ok1
      refine ⟨.tup [v, .int 0], g4, T ++ [.lst [.str "dup", .str "drop", .str "swap", .str "over", .str "rot", .str "rot", .str "swap"]], ?_, ok4, ?e⟩
      case e =>
        simp [fn__law_instruction, runFn, sh__law_instruction, g__law_pick, g__law_choice, e1, e4, h0, h3, z2, z7]
      · refine .inr (.inl ?_)
        simp only [List.mem_cons, List.not_mem_nil, or_false] at hv
        rcases hv with h | h | h | h | h | h | h <;> rw [h] <;> exact ⟨_, _, by simp, rfl⟩
end
end K45

set_option Elab.async false
set_option linter.all false
set_option maxRecDepth 100000
set_option maxHeartbeats 4000000
namespace K45
open PySem L2 PyProof.Rows Sh
section
variable {ns : List Int} {g : Bg} {T : AH}
@[simp] theorem lst_mid {U : AH} {xs : List AV} : AH.lst? (T ++ .lst xs :: U) T.length = some xs := by
  unfold AH.lst?
  rw [List.getElem?_append_right (Nat.le_refl _), Nat.sub_self]
  rfl
@[simp] theorem set_mid {U : AH} {xs : AO} {o : AO} : List.set (T ++ xs :: U) T.length o = T ++ o :: U := by
  rw [List.set_append_right _ _ (Nat.le_refl _), Nat.sub_self]
  rfl
theorem rcv_lst {A : AH} {n : Nat} {xs : List AV} (h : A.lst? n = some xs) : rcv .list (.ref n) A = true := by
  show (sq? (.ref n) A).isSome = true
  rw [sq_ref, h]
  rfl
theorem append_lst {A : AH} {n : Nat} {xs : List AV} {v : AV} (h : A.lst? n = some xs) (hl : xs.length < sizeLine) : mAppend (.ref n) [v] A = .ok .non (A.set n (.lst (xs ++ [v]))) := by
  simp only [mAppend, h]
  rw [if_pos hl]
theorem tuple_lst {A : AH} {n : Nat} {xs : List AV} (h : A.lst? n = some xs) : bTuple [.ref n] A = .ok (.tup xs) A := by
  simp only [bTuple, sq_ref, h]
theorem list_tup {A : AH} {xs : List AV} : bList [.tup xs] A = .ok (.ref A.length) (A ++ [.lst xs]) := rfl
theorem body_t3 {M r : Int} (hm : 0 < M) (hm2 : M ≤ 40) (hr : 0 < r) (hr2 : r < 1000000) (ok : 0 ≤ g.at_) :
    ∃ rows g' T', sh__law_body_3 [some (.ref 1), some (.int M), some (.int r), none, none] (hp ns g T) = .rt (.tup rows) (hp ns g' T') ∧ (∀ v ∈ rows, Row v) ∧ rows.length = M.toNat ∧ 0 ≤ g'.at_ := by
  have z2 : 2 ≤ sizeLine := by decide
  have z3 : 3 ≤ sizeLine := by decide
  have z4 : 40 < sizeLine := by decide
  have hlr : (rangeA 0 (M - 1).toNat).length = (M - 1).toNat := by simp [rangeA]
  obtain ⟨out, A', e, ⟨g1, T1, rfl, ok1⟩, hP, hl⟩ := lc_inv (tg := gNm 4) (elt := eCall g__law_instruction (aCons (eVar 0) (aCons (eVar 1) (aCons (eVar 2) aNil)))) (xs := rangeA 0 (M - 1).toNat) (ℓ0 := [some (.ref 1), some (.int M), some (.int r), none, none])
    (fun A => ∃ g' T', A = hp ns g' T' ∧ 0 ≤ g'.at_) Row (by
      intro x hx A hA
      obtain ⟨g1, T1, rfl, ok1⟩ := hA
      obtain ⟨v, g2, T2, hv, ok2, e2⟩ := instruction (ns := ns) (g := g1) (T := T1) hm (by omega) hr hr2 ok1
      refine ⟨_, rfl, v, hp ns g2 T2, ?_, ⟨g2, T2, rfl, ok2⟩, hv⟩
      simp [g__law_instruction, e2]) (wPure (rangeA 0 (M - 1).toNat)).n 0 [] (hp ns g T) (by show 0 + (rangeA 0 (M - 1).toNat).length = _; omega) (by show 0 + (rangeA 0 (M - 1).toNat).length ≤ _; omega) ⟨g, T, rfl, ok⟩ (by simp)
  have hl2 : out.length = (M - 1).toNat := by rw [hl]; show 0 + (rangeA 0 (M - 1).toNat).length = _; omega
  obtain ⟨a, g2, a1, a2, ok2, e2⟩ := pick (ns := ns) (g := g1) (T := T1 ++ [.lst out]) hm (by omega) ok1
  obtain ⟨v, g3, hv, ok3, e3⟩ := choice (ns := ns) (g := g2) (k := T1.length + 1) (T := T1 ++ [.lst out, .lst [.tup [.str "exit", .int 0], .tup [.str "goto", .int a], .tup [.str "jump", .int 0]]]) (by simp [AH.lst?]; rfl) (by simp) (by simp) ok2
  have e3' : fn__law_choice [.ref 1, .ref (T1.length + 3)] _ = _ := e3
  have hi : iRange (aCons (eOp opSub (eVar 1) (eC (.int 1))) aNil) [some (.ref 1), some (.int M), some (.int r), none, none] (hp ns g T) = .ok (wPure (rangeA 0 (M - 1).toNat)) (hp ns g T) := iRange1 (by simp) ⟨by omega, by omega⟩
  refine ⟨out ++ [v], g3, T1 ++ [.lst (out ++ [v]), .lst [.tup [.str "exit", .int 0], .tup [.str "goto", .int a], .tup [.str "jump", .int 0]]], ?_, ?_, ?_, ok3⟩
  · have f1 := rcv_lst (A := hp ns g1 (T1 ++ [.lst out])) (n := T1.length + 2) (xs := out) (by simp)
    have f2 := append_lst (A := hp ns g3 (T1 ++ [.lst out, .lst [.tup [.str "exit", .int 0], .tup [.str "goto", .int a], .tup [.str "jump", .int 0]]])) (n := T1.length + 2) (xs := out) (v := v) (by simp) (by omega)
    have f3 := tuple_lst (A := hp ns g3 (T1 ++ [.lst (out ++ [v]), .lst [.tup [.str "exit", .int 0], .tup [.str "goto", .int a], .tup [.str "jump", .int 0]]])) (n := T1.length + 2) (xs := out ++ [v]) (by simp)
    simp only [hp_set, set_mid] at f2
    unfold sh__law_body_3
    simp only [sSeq_ap, sSet_ap, eLc_ap, hi, bind_ok, wipeA, List.set, e]
    simp [sh__law_body_4, sh__law_body_5, g__law_choice, g__law_pick, f1, e2, e3', z2, z3]
    rw [f2]
    simp [f3]
  · intro w hw
    rcases List.mem_append.mp hw with h | h
    · exact hP w h
    · rw [List.mem_singleton.mp h]
      refine .inr (.inr ?_)
      simp only [List.mem_cons, List.not_mem_nil, or_false] at hv
      rcases hv with h | h | h <;> exact ⟨_, _, fun A => ⟨rfl, rfl, rfl⟩, h⟩
  · simp; omega
theorem body_t2 {M : Int} (hm : 0 < M) (hm2 : M ≤ 40) (ok : 0 ≤ g.at_) :
    ∃ rows g' T', sh__law_body_2 [some (.ref 1), some (.int M), none, none, none] (hp ns g T) = .rt (.tup rows) (hp ns g' T') ∧ (∀ v ∈ rows, Row v) ∧ rows.length = M.toNat ∧ 0 ≤ g'.at_ := by
  have z3 : 3 ≤ sizeLine := by decide
  obtain ⟨i, g1, i1, i2, ok1, e1⟩ := pick (ns := ns) (g := g) (T := T ++ [.lst [.int 5, .int 12, .int 30]]) (m := 3) (by omega) (by omega) ok
  have hi : i = 0 ∨ i = 1 ∨ i = 2 := by omega
  have key : ∃ r : Int, 0 < r ∧ r < 1000000 ∧ opIx (.ref (T.length + 2)) (.int i) (hp ns g1 (T ++ [.lst [.int 5, .int 12, .int 30]])) = .ok (.int r) (hp ns g1 (T ++ [.lst [.int 5, .int 12, .int 30]])) := by
    rcases hi with rfl | rfl | rfl
    · exact ⟨5, by omega, by omega, ix_lst lst_end (by omega) rfl⟩
    · exact ⟨12, by omega, by omega, ix_lst lst_end (by omega) rfl⟩
    · exact ⟨30, by omega, by omega, ix_lst lst_end (by omega) rfl⟩
  obtain ⟨r, r1, r2, e2⟩ := key
  obtain ⟨rows, g2, T2, e3, h⟩ := body_t3 (ns := ns) (g := g1) (T := T ++ [.lst [.int 5, .int 12, .int 30]]) hm hm2 r1 r2 ok1
  refine ⟨rows, g2, T2, ?_, h⟩
  simp [sh__law_body_2, g__law_pick, z3, e1, e2, e3]
theorem body_ok (ok : 0 ≤ g.at_) : ∃ rows g' T', fn__law_body [.ref 1] (hp ns g T) = .ok (.tup rows) (hp ns g' T') ∧ (∀ v ∈ rows, Row v) ∧ 0 < rows.length ∧ rows.length ≤ 40 ∧ 0 ≤ g'.at_ := by
  obtain ⟨a, g1, a1, a2, ok1, e1⟩ := pick (ns := ns) (g := g) (T := T) (m := 40) (by omega) (by omega) ok
  obtain ⟨b, g2, b1, b2, ok2, e2⟩ := pick (ns := ns) (g := g1) (T := T) (m := 3) (by omega) (by omega) ok1
  by_cases hb : b = 0
  · obtain ⟨c, g3, c1, c2, ok3, e3⟩ := pick (ns := ns) (g := g2) (T := T) (m := 6) (by omega) (by omega) ok2
    obtain ⟨rows, g4, T4, e4, h1, h2, h3⟩ := body_t2 (ns := ns) (g := g3) (T := T) (M := 1 + c) (by omega) (by omega) ok3
    refine ⟨rows, g4, T4, ?_, h1, by omega, by omega, h3⟩
    simp [fn__law_body, runFn, sh__law_body, sh__law_body_0, sh__law_body_1, g__law_pick, e1, e2, hb, e3, e4]
  · obtain ⟨rows, g4, T4, e4, h1, h2, h3⟩ := body_t2 (ns := ns) (g := g2) (T := T) (M := 1 + a) (by omega) (by omega) ok2
    refine ⟨rows, g4, T4, ?_, h1, by omega, by omega, h3⟩
    simp [fn__law_body, runFn, sh__law_body, sh__law_body_0, sh__law_body_1, g__law_pick, e1, e2, hb, e4]
/-! ### the layout -/
def Item (a : AV) : Prop := ∃ s n, a = .tup [.str s, .int n]
theorem source (ok : 0 ≤ g.at_) : ∃ v g' T', fn__law_source [.ref 1] (hp ns g T) = .ok v (hp ns g' T') ∧ Item v ∧ 0 ≤ g'.at_ := by
  have z2 : 2 ≤ sizeLine := by decide
  have z3 : 3 ≤ sizeLine := by decide
  obtain ⟨d, g1, d1, d2, ok1, e1⟩ := pick (ns := ns) (g := g) (T := T) (m := 6) (by omega) (by omega) ok
  by_cases h3 : d < 3
  · obtain ⟨c, g3, c1, c2, ok3, e3⟩ := pick (ns := ns) (g := g1) (T := T) (m := 8) (by omega) (by omega) ok1
    refine ⟨.tup [.str "reg", .int c], g3, T, ?_, ⟨_, _, rfl⟩, ok3⟩
    simp [fn__law_source, runFn, sh__law_source, g__law_pick, e1, e3, h3, z2]
  · obtain ⟨a, g2, a1, a2, ok2, e2⟩ := pick (ns := ns) (g := g1) (T := T) (m := 40) (by omega) (by omega) ok1
    obtain ⟨b, g3, b1, b2, ok3, e3⟩ := pick (ns := ns) (g := g2) (T := T) (m := 2049) (by omega) (by omega) ok2
    obtain ⟨c, g4, c1, c2, ok4, e4⟩ := pick (ns := ns) (g := g3) (T := T) (m := 400) (by omega) (by omega) ok3
    have hi : (d - 3).toNat < [AV.tup [.str "lit", .int (a - 20)], .tup [.str "data", .int b], .tup [.str "token", .int c]].length := by simp; omega
    have e6 := ix_lst (A := hp ns g4 (T ++ [.lst [.tup [.str "lit", .int (a - 20)], .tup [.str "data", .int b], .tup [.str "token", .int c]]])) (k := T.length + 2) lst_end (i := d - 3) (by omega) (List.getElem?_eq_getElem hi)
    refine ⟨[AV.tup [.str "lit", .int (a - 20)], .tup [.str "data", .int b], .tup [.str "token", .int c]][(d - 3).toNat], g4, T ++ [.lst [.tup [.str "lit", .int (a - 20)], .tup [.str "data", .int b], .tup [.str "token", .int c]]], ?e, ?_, ok4⟩
    case e =>
      simp only [fn__law_source, runFn, sh__law_source, g__law_pick]
      simp [e1, e2, e3, e4, h3, z2, z3]
      rw [e6]
      rfl
    · have hv := List.getElem_mem hi
      simp only [List.mem_cons, List.not_mem_nil, or_false] at hv
      rcases hv with h | h | h <;> rw [h] <;> exact ⟨_, _, rfl⟩
theorem bag (ns : List Int) (h : ns.length ≤ 63) : fn__law_bag [.fl (ns.map .int)] [] = .ok (.ref 1) (hp ns ⟨0, 0, 20011, 0⟩ []) := by
  have z : 63 ≤ sizeLine := by decide
  have e := lc_map (A := []) (tg := gNm 1) (elt := eCB bInt (aCons (eVar 1) aNil)) (xs := ns.map AV.int) (ℓ0 := [some (.fl (ns.map .int)), none]) (fun x => x) (by
    intro x hx
    obtain ⟨i, _, rfl⟩ := List.mem_map.mp hx
    exact ⟨_, rfl, rfl⟩) (wPure (ns.map AV.int)).n 0 [] (by show 0 + (ns.map AV.int).length = _; omega) (by show 0 + (ns.map AV.int).length ≤ _; rw [List.length_map]; omega)
  have e2 : ([] : List AV) ++ List.map (fun x => x) (List.drop 0 (ns.map AV.int)) = ns.map AV.int := by simp
  rw [e2] at e
  unfold fn__law_bag runFn sh__law_bag
  simp only [sRet_ap, eDct, pairsF, eC_ap, bind_ok, eLc_ap, iVal_ap]
  simp only [List.map, List.length, List.replicate, List.cons_append, List.nil_append, eVar0, bind_ok, asWalk_fl, wipeA, List.set]
  rw [e]
  rfl
end
end K45

set_option Elab.async false
set_option linter.all false
set_option maxRecDepth 100000
set_option maxHeartbeats 4000000
namespace K45
open PySem L2 PyProof.Rows Sh
section
variable {ns : List Int} {g : Bg} {T : AH}
/-! ### one step -/
inductive Stp : AV → List AV → Option (List AV) → Prop
  | put {op n l} : (op = "lit" ∨ op = "data" ∨ op = "token") → Stp (.tup [.str op, .int n]) l (some (l ++ [.tup [.str op, .int n]]))
  | dup {v p a} : Stp (.tup [.str "dup", v]) (p ++ [a]) (some (p ++ [a, a]))
  | dup0 {v} : Stp (.tup [.str "dup", v]) [] none
  | drop {v p a} : Stp (.tup [.str "drop", v]) (p ++ [a]) (some p)
  | drop0 {v} : Stp (.tup [.str "drop", v]) [] none
  | swap {v p a b} : Stp (.tup [.str "swap", v]) (p ++ [a, b]) (some (p ++ [b, a]))
  | swap0 {v l} : l.length < 2 → Stp (.tup [.str "swap", v]) l none
  | over {v p a b} : Stp (.tup [.str "over", v]) (p ++ [a, b]) (some (p ++ [a, b, a]))
  | over0 {v l} : l.length < 2 → Stp (.tup [.str "over", v]) l none
  | rot {v p a b c} : Stp (.tup [.str "rot", v]) (p ++ [a, b, c]) (some (p ++ [b, c, a]))
  | rot0 {v l} : l.length < 3 → Stp (.tup [.str "rot", v]) l none
  | oth {op v l} : Oth op → Stp (.tup [.str op, v]) l none
theorem end1 {α : Type} {l : List α} (h : 1 ≤ l.length) : ∃ p a, l = p ++ [a] := ⟨l.dropLast, l.getLast (by intro e; rw [e] at h; simp at h), (List.dropLast_concat_getLast _).symm⟩
theorem end2 {α : Type} {l : List α} (h : 2 ≤ l.length) : ∃ p a b, l = p ++ [a, b] := by
  obtain ⟨p, b, rfl⟩ := end1 (by omega : 1 ≤ l.length)
  obtain ⟨q, a, rfl⟩ := end1 (by simp at h; omega : 1 ≤ p.length)
  exact ⟨q, a, b, by simp⟩
theorem end3 {α : Type} {l : List α} (h : 3 ≤ l.length) : ∃ p a b c, l = p ++ [a, b, c] := by
  obtain ⟨p, b, c, rfl⟩ := end2 (by omega : 2 ≤ l.length)
  obtain ⟨q, a, rfl⟩ := end1 (by simp at h; omega : 1 ≤ p.length)
  exact ⟨q, a, b, c, by simp⟩
theorem stp_ex {r : AV} (l : List AV) (h : Row r) : ∃ o, Stp r l o := by
  rcases h with ⟨op, n, h, rfl⟩ | ⟨op, v, h, rfl⟩ | ⟨op, v, h, rfl⟩
  · exact ⟨_, .put h⟩
  · rcases h with rfl | rfl | rfl | rfl | rfl
    · by_cases hl : 1 ≤ l.length
      · obtain ⟨p, a, rfl⟩ := end1 hl
        exact ⟨_, .dup⟩
      · rw [List.length_eq_zero_iff.mp (by omega : l.length = 0)]
        exact ⟨_, .dup0⟩
    · by_cases hl : 1 ≤ l.length
      · obtain ⟨p, a, rfl⟩ := end1 hl
        exact ⟨_, .drop⟩
      · rw [List.length_eq_zero_iff.mp (by omega : l.length = 0)]
        exact ⟨_, .drop0⟩
    · by_cases hl : 2 ≤ l.length
      · obtain ⟨p, a, b, rfl⟩ := end2 hl
        exact ⟨_, .swap⟩
      · exact ⟨_, .swap0 (by omega)⟩
    · by_cases hl : 2 ≤ l.length
      · obtain ⟨p, a, b, rfl⟩ := end2 hl
        exact ⟨_, .over⟩
      · exact ⟨_, .over0 (by omega)⟩
    · by_cases hl : 3 ≤ l.length
      · obtain ⟨p, a, b, c, rfl⟩ := end3 hl
        exact ⟨_, .rot⟩
      · exact ⟨_, .rot0 (by omega)⟩
  · exact ⟨_, .oth h⟩
def asAV : Option (List AV) → AV
  | some l => .tup l
  | none => .non
@[simp] theorem ix0 {x : AV} {r : List AV} {A : AH} : opIx (.tup (x :: r)) (.int 0) A = .ok x A := by
  show atA _ _ _ = _
  exact atA_get (by omega) rfl
@[simp] theorem ix1 {x y : AV} {r : List AV} {A : AH} : opIx (.tup (x :: y :: r)) (.int 1) A = .ok y A := by
  show atA _ _ _ = _
  exact atA_get (by omega) rfl
theorem ixm {p : List AV} {k : Nat} {q : List AV} {x : AV} {A : AH} {i : Int} (h : i < 0) (hk : (p ++ q).length + i = k) (e : (p ++ q)[k]? = some x) : opIx (.tup (p ++ q)) (.int i) A = .ok x A := by
  show atA _ _ _ = _
  unfold atA atI ixN
  rw [if_neg (by omega), if_pos (by omega)]
  have e2 : (i + ((p ++ q).length : Int)).toNat = k := by omega
  rw [Option.bind_some, e2, e]
theorem cut_hi {p q : List AV} {i : Int} (h : i = -(q.length : Int)) (hq : 0 < q.length) : cutA (p ++ q) none (some i) = p := by
  unfold cutA HT.sIx
  simp only [h]
  rw [if_pos (by omega)]
  have : (-(q.length : Int) + ((p ++ q).length : Int)).toNat = p.length := by simp; omega
  rw [this]
  simp
theorem cut_lo {p : List AV} {a : AV} : cutA (p ++ [a]) (some (-1)) none = [a] := by
  unfold cutA HT.sIx
  simp only
  rw [if_pos (by omega)]
  have : (-1 + ((p ++ [a]).length : Int)).toNat = p.length := by simp; omega
  rw [this]
  simp
theorem tupadd {xs ys : List AV} {A : AH} (h : xs.length + ys.length ≤ sizeLine) : opAdd (.tup xs) (.tup ys) A = .ok (.tup (xs ++ ys)) A := by
  simp only [opAdd]
  rw [if_pos h]
theorem layout_step_ok {r : AV} {l : List AV} {o : Option (List AV)} {A : AH} (h : Stp r l o) (hl : l.length ≤ 1000) : fn_layout_step [r, .tup l] A = .ok (asAV o) A := by
  have z1 : 1 ≤ sizeLine := by decide
  have z2 : 2 ≤ sizeLine := by decide
  have z3 : 3 ≤ sizeLine := by decide
  have zs : sizeLine = 16777216 := sizeLine_eq
  cases h with
  | @put op n l h =>
    have a1 : cNotIn (.str op) c_LAYOUT A = .ok (.bl false) A := by rcases h with rfl | rfl | rfl <;> rfl
    have a2 : opIx c_EFFECTS (.str op) A = .ok (.tup [.int 0, .int 1]) A := by rcases h with rfl | rfl | rfl <;> rfl
    have a3 : cIn (.str op) (.tup [.str "lit", .str "data", .str "token"]) A = .ok (.bl true) A := by rcases h with rfl | rfl | rfl <;> rfl
    have a4 : opAdd (.tup l) (.tup [.tup [.str op, .int n]]) A = _ := tupadd (by simp; omega)
    have a5 : ¬ ((l.length : Int) < 0) := by omega
    simp [fn_layout_step, runFn, sh_layout_step, a1, a2, a3, a4, a5, z1, z3, asAV]
  | @dup v p a =>
    have a1 : cNotIn (.str "dup") c_LAYOUT A = .ok (.bl false) A := rfl
    have a2 : opIx c_EFFECTS (.str "dup") A = .ok (.tup [.int 1, .int 2]) A := rfl
    have a3 : cIn (.str "dup") (.tup [.str "lit", .str "data", .str "token"]) A = .ok (.bl false) A := rfl
    have q0 : cEq (.str "dup") (.str "dup") A = .ok (.bl true) A := rfl
    have q1 : cEq (.str "dup") (.str "drop") A = .ok (.bl false) A := rfl
    have q2 : cEq (.str "dup") (.str "swap") A = .ok (.bl false) A := rfl
    have q3 : cEq (.str "dup") (.str "over") A = .ok (.bl false) A := rfl
    have a5 : ¬ ((p.length : Int) + 1 < 1) := by omega
    have b1 : cutA (p ++ [a]) (some (-1)) none = [a] := cut_lo
    have b2 : opAdd (.tup (p ++ [a])) (.tup [a]) A = _ := tupadd (by simp at *; omega)
    simp [fn_layout_step, runFn, sh_layout_step, a1, a2, a3, q0, q1, q2, q3, z1, z2, z3, asAV, uNeg, a5, b1, b2]
  | @dup0 v =>
    have a1 : cNotIn (.str "dup") c_LAYOUT A = .ok (.bl false) A := rfl
    have a2 : opIx c_EFFECTS (.str "dup") A = .ok (.tup [.int 1, .int 2]) A := rfl
    have a3 : cIn (.str "dup") (.tup [.str "lit", .str "data", .str "token"]) A = .ok (.bl false) A := rfl
    have q0 : cEq (.str "dup") (.str "dup") A = .ok (.bl true) A := rfl
    have q1 : cEq (.str "dup") (.str "drop") A = .ok (.bl false) A := rfl
    have q2 : cEq (.str "dup") (.str "swap") A = .ok (.bl false) A := rfl
    have q3 : cEq (.str "dup") (.str "over") A = .ok (.bl false) A := rfl
    simp [fn_layout_step, runFn, sh_layout_step, a1, a2, a3, q0, q1, q2, q3, z1, z2, z3, asAV]
  | @drop v p a =>
    have a1 : cNotIn (.str "drop") c_LAYOUT A = .ok (.bl false) A := rfl
    have a2 : opIx c_EFFECTS (.str "drop") A = .ok (.tup [.int 1, .int 0]) A := rfl
    have a3 : cIn (.str "drop") (.tup [.str "lit", .str "data", .str "token"]) A = .ok (.bl false) A := rfl
    have q0 : cEq (.str "drop") (.str "dup") A = .ok (.bl false) A := rfl
    have q1 : cEq (.str "drop") (.str "drop") A = .ok (.bl true) A := rfl
    have q2 : cEq (.str "drop") (.str "swap") A = .ok (.bl false) A := rfl
    have q3 : cEq (.str "drop") (.str "over") A = .ok (.bl false) A := rfl
    have a5 : ¬ ((p.length : Int) + 1 < 1) := by omega
    have b1 : cutA (p ++ [a]) none (some (-1)) = p := cut_hi rfl (by simp)
    simp [fn_layout_step, runFn, sh_layout_step, a1, a2, a3, q0, q1, q2, q3, z1, z2, z3, asAV, uNeg, a5, b1]
  | @drop0 v =>
    have a1 : cNotIn (.str "drop") c_LAYOUT A = .ok (.bl false) A := rfl
    have a2 : opIx c_EFFECTS (.str "drop") A = .ok (.tup [.int 1, .int 0]) A := rfl
    have a3 : cIn (.str "drop") (.tup [.str "lit", .str "data", .str "token"]) A = .ok (.bl false) A := rfl
    have q0 : cEq (.str "drop") (.str "dup") A = .ok (.bl false) A := rfl
    have q1 : cEq (.str "drop") (.str "drop") A = .ok (.bl true) A := rfl
    have q2 : cEq (.str "drop") (.str "swap") A = .ok (.bl false) A := rfl
    have q3 : cEq (.str "drop") (.str "over") A = .ok (.bl false) A := rfl
    simp [fn_layout_step, runFn, sh_layout_step, a1, a2, a3, q0, q1, q2, q3, z1, z2, z3, asAV]
  | @swap v p a b =>
    have a1 : cNotIn (.str "swap") c_LAYOUT A = .ok (.bl false) A := rfl
    have a2 : opIx c_EFFECTS (.str "swap") A = .ok (.tup [.int 2, .int 2]) A := rfl
    have a3 : cIn (.str "swap") (.tup [.str "lit", .str "data", .str "token"]) A = .ok (.bl false) A := rfl
    have q0 : cEq (.str "swap") (.str "dup") A = .ok (.bl false) A := rfl
    have q1 : cEq (.str "swap") (.str "drop") A = .ok (.bl false) A := rfl
    have q2 : cEq (.str "swap") (.str "swap") A = .ok (.bl true) A := rfl
    have q3 : cEq (.str "swap") (.str "over") A = .ok (.bl false) A := rfl
    have a5 : ¬ ((p.length : Int) + 2 < 2) := by omega
    have b1 : cutA (p ++ [a, b]) none (some (-2)) = p := cut_hi rfl (by simp)
    have b2 : opAdd (.tup p) (.tup [b, a]) A = _ := tupadd (by simp at *; omega)
    have b3 : opIx (.tup (p ++ [a, b])) (.int (-1)) A = .ok b A := ixm (k := p.length + 1) (by omega) (by simp; omega) (by simp)
    have b4 : opIx (.tup (p ++ [a, b])) (.int (-2)) A = .ok a A := ixm (k := p.length) (by omega) (by simp; omega) (by simp)
    simp [fn_layout_step, runFn, sh_layout_step, a1, a2, a3, q0, q1, q2, q3, z1, z2, z3, asAV, uNeg, a5, b1, b2, b3, b4]
  | @swap0 v l h =>
    have a1 : cNotIn (.str "swap") c_LAYOUT A = .ok (.bl false) A := rfl
    have a2 : opIx c_EFFECTS (.str "swap") A = .ok (.tup [.int 2, .int 2]) A := rfl
    have a3 : cIn (.str "swap") (.tup [.str "lit", .str "data", .str "token"]) A = .ok (.bl false) A := rfl
    have q0 : cEq (.str "swap") (.str "dup") A = .ok (.bl false) A := rfl
    have q1 : cEq (.str "swap") (.str "drop") A = .ok (.bl false) A := rfl
    have q2 : cEq (.str "swap") (.str "swap") A = .ok (.bl true) A := rfl
    have q3 : cEq (.str "swap") (.str "over") A = .ok (.bl false) A := rfl
    have a5 : ((l.length : Int) < 2) := by omega
    simp [fn_layout_step, runFn, sh_layout_step, a1, a2, a3, q0, q1, q2, q3, z1, z2, z3, asAV, a5]
  | @over v p a b =>
    have a1 : cNotIn (.str "over") c_LAYOUT A = .ok (.bl false) A := rfl
    have a2 : opIx c_EFFECTS (.str "over") A = .ok (.tup [.int 2, .int 3]) A := rfl
    have a3 : cIn (.str "over") (.tup [.str "lit", .str "data", .str "token"]) A = .ok (.bl false) A := rfl
    have q0 : cEq (.str "over") (.str "dup") A = .ok (.bl false) A := rfl
    have q1 : cEq (.str "over") (.str "drop") A = .ok (.bl false) A := rfl
    have q2 : cEq (.str "over") (.str "swap") A = .ok (.bl false) A := rfl
    have q3 : cEq (.str "over") (.str "over") A = .ok (.bl true) A := rfl
    have a5 : ¬ ((p.length : Int) + 2 < 2) := by omega
    have b4 : opIx (.tup (p ++ [a, b])) (.int (-2)) A = .ok a A := ixm (k := p.length) (by omega) (by simp; omega) (by simp)
    have b2 : opAdd (.tup (p ++ [a, b])) (.tup [a]) A = _ := tupadd (by simp at *; omega)
    simp [fn_layout_step, runFn, sh_layout_step, a1, a2, a3, q0, q1, q2, q3, z1, z2, z3, asAV, uNeg, a5, b2, b4]
  | @over0 v l h =>
    have a1 : cNotIn (.str "over") c_LAYOUT A = .ok (.bl false) A := rfl
    have a2 : opIx c_EFFECTS (.str "over") A = .ok (.tup [.int 2, .int 3]) A := rfl
    have a3 : cIn (.str "over") (.tup [.str "lit", .str "data", .str "token"]) A = .ok (.bl false) A := rfl
    have q0 : cEq (.str "over") (.str "dup") A = .ok (.bl false) A := rfl
    have q1 : cEq (.str "over") (.str "drop") A = .ok (.bl false) A := rfl
    have q2 : cEq (.str "over") (.str "swap") A = .ok (.bl false) A := rfl
    have q3 : cEq (.str "over") (.str "over") A = .ok (.bl true) A := rfl
    have a5 : ((l.length : Int) < 2) := by omega
    simp [fn_layout_step, runFn, sh_layout_step, a1, a2, a3, q0, q1, q2, q3, z1, z2, z3, asAV, a5]
  | @rot v p a b c =>
    have a1 : cNotIn (.str "rot") c_LAYOUT A = .ok (.bl false) A := rfl
    have a2 : opIx c_EFFECTS (.str "rot") A = .ok (.tup [.int 3, .int 3]) A := rfl
    have a3 : cIn (.str "rot") (.tup [.str "lit", .str "data", .str "token"]) A = .ok (.bl false) A := rfl
    have q0 : cEq (.str "rot") (.str "dup") A = .ok (.bl false) A := rfl
    have q1 : cEq (.str "rot") (.str "drop") A = .ok (.bl false) A := rfl
    have q2 : cEq (.str "rot") (.str "swap") A = .ok (.bl false) A := rfl
    have q3 : cEq (.str "rot") (.str "over") A = .ok (.bl false) A := rfl
    have a5 : ¬ ((p.length : Int) + 3 < 3) := by omega
    have b1 : cutA (p ++ [a, b, c]) none (some (-3)) = p := cut_hi rfl (by simp)
    have b2 : opAdd (.tup p) (.tup [b, c, a]) A = _ := tupadd (by simp at *; omega)
    have b3 : opIx (.tup (p ++ [a, b, c])) (.int (-1)) A = .ok c A := ixm (k := p.length + 2) (by omega) (by simp; omega) (by simp)
    have b4 : opIx (.tup (p ++ [a, b, c])) (.int (-2)) A = .ok b A := ixm (k := p.length + 1) (by omega) (by simp; omega) (by simp)
    have b5 : opIx (.tup (p ++ [a, b, c])) (.int (-3)) A = .ok a A := ixm (k := p.length) (by omega) (by simp; omega) (by simp)
    simp [fn_layout_step, runFn, sh_layout_step, a1, a2, a3, q0, q1, q2, q3, z1, z2, z3, asAV, uNeg, a5, b1, b2, b3, b4, b5]
  | @rot0 v l h =>
    have a1 : cNotIn (.str "rot") c_LAYOUT A = .ok (.bl false) A := rfl
    have a2 : opIx c_EFFECTS (.str "rot") A = .ok (.tup [.int 3, .int 3]) A := rfl
    have a3 : cIn (.str "rot") (.tup [.str "lit", .str "data", .str "token"]) A = .ok (.bl false) A := rfl
    have q0 : cEq (.str "rot") (.str "dup") A = .ok (.bl false) A := rfl
    have q1 : cEq (.str "rot") (.str "drop") A = .ok (.bl false) A := rfl
    have q2 : cEq (.str "rot") (.str "swap") A = .ok (.bl false) A := rfl
    have q3 : cEq (.str "rot") (.str "over") A = .ok (.bl false) A := rfl
    have a5 : ((l.length : Int) < 3) := by omega
    simp [fn_layout_step, runFn, sh_layout_step, a1, a2, a3, q0, q1, q2, q3, z1, z2, z3, asAV, a5]
  | @oth op v l h =>
    have a1 := (h A).1
    simp [fn_layout_step, runFn, sh_layout_step, a1, asAV]
end
end K45

set_option Elab.async false
set_option linter.all false
set_option maxRecDepth 100000
set_option maxHeartbeats 4000000
namespace K45
open PySem L2 PyProof.Rows Sh
section
variable {ns : List Int} {g : Bg} {T : AH} {A : AH} {n : Nat}
theorem lst_set {xs ys : List AV} (h : A.lst? n = some xs) : AH.lst? (A.set n (.lst ys)) n = some ys := by
  unfold AH.lst? at *
  have hn : n < A.length := by
    by_cases hn : n < A.length
    · exact hn
    · rw [List.getElem?_eq_none (by omega)] at h; cases h
  rw [List.getElem?_set_self hn]
theorem pop_at {xs : List AV} {k : Nat} {y : AV} (h : A.lst? n = some xs) (hl : xs.length ≤ 10000) (hx : xs[k]? = some y) : mPop (.ref n) [.int (k : Int)] A = .ok y (A.set n (.lst (xs.eraseIdx k))) := by
  have hk : k < xs.length := by
    by_cases hk : k < xs.length
    · exact hk
    · rw [List.getElem?_eq_none (by omega)] at hx; cases hx
  have e : seqIndex? (k : Int) xs.length = some k := by
    unfold seqIndex?
    have : ¬ ((k : Int) < 0) := by omega
    simp [this, hk]
  simp only [mPop, h]
  rw [if_pos (by omega)]
  simp only [e, hx]
theorem pop_end {p : List AV} {a : AV} (h : A.lst? n = some (p ++ [a])) : mPop (.ref n) [] A = .ok a (A.set n (.lst p)) := by
  simp only [mPop, h]
  simp
theorem mv3_swap {r : AV} {p : List AV} {a b : AV} (h : A.lst? n = some (p ++ [a, b])) (hl : p.length ≤ 1000) : ∃ A', sh__law_moved_3 [some r, some (.ref n), some (.str "swap"), none] A = .rt (.bl true) A' ∧ A' = A.set n (.lst (p ++ [b] ++ [a])) := by
  have c1 : ∀ A, cIn (.str "swap") (.tup [.str "swap", .str "rot"]) A = .ok (.bl true) A := fun _ => rfl
  have c2 : ∀ A, cEq (.str "swap") (.str "swap") A = .ok (.bl true) A := fun _ => rfl
  have c3 : ∀ A, cEq (.str "swap") (.str "drop") A = .ok (.bl false) A := fun _ => rfl
  have c4 : ∀ A, cEq (.str "swap") (.str "dup") A = .ok (.bl false) A := fun _ => rfl
  have z2 : 2 ≤ sizeLine := by decide
  have zs : sizeLine = 16777216 := sizeLine_eq
  have e1 := rcv_lst h
  have e2 := len_lst h
  have e3 := pop_at (k := p.length) (y := a) h (by simp; omega) (by simp)
  have e0 : (p ++ [a, b]).eraseIdx p.length = p ++ [b] := by rw [List.eraseIdx_append_of_length_le (Nat.le_refl _), Nat.sub_self]; rfl
  rw [e0] at e3
  have h2 : AH.lst? (A.set n (.lst (p ++ [b]))) n = some (p ++ [b]) := lst_set h
  have e4 := rcv_lst h2
  have e5 := append_lst (v := a) h2 (by simp; omega)
  rw [List.set_set] at e5
  refine ⟨_, ?_, rfl⟩
  simp [sh__law_moved_3, sh__law_moved_4, c1, c2, e1, e2, e3, z2]
  simp only [e4, if_true, e5, toS_ok]
  try simp
theorem mv3_rot {r : AV} {p : List AV} {a b c : AV} (h : A.lst? n = some (p ++ [a, b, c])) (hl : p.length ≤ 1000) : ∃ A', sh__law_moved_3 [some r, some (.ref n), some (.str "rot"), none] A = .rt (.bl true) A' ∧ A' = A.set n (.lst (p ++ [b, c] ++ [a])) := by
  have c1 : ∀ A, cIn (.str "rot") (.tup [.str "swap", .str "rot"]) A = .ok (.bl true) A := fun _ => rfl
  have c2 : ∀ A, cEq (.str "rot") (.str "swap") A = .ok (.bl false) A := fun _ => rfl
  have c3 : ∀ A, cEq (.str "rot") (.str "drop") A = .ok (.bl false) A := fun _ => rfl
  have c4 : ∀ A, cEq (.str "rot") (.str "dup") A = .ok (.bl false) A := fun _ => rfl
  have z2 : 2 ≤ sizeLine := by decide
  have zs : sizeLine = 16777216 := sizeLine_eq
  have e1 := rcv_lst h
  have e2 := len_lst h
  have e3 := pop_at (k := p.length) (y := a) h (by simp; omega) (by simp)
  have e0 : (p ++ [a, b, c]).eraseIdx p.length = p ++ [b, c] := by rw [List.eraseIdx_append_of_length_le (Nat.le_refl _), Nat.sub_self]; rfl
  rw [e0] at e3
  have h2 : AH.lst? (A.set n (.lst (p ++ [b, c]))) n = some (p ++ [b, c]) := lst_set h
  have e4 := rcv_lst h2
  have e5 := append_lst (v := a) h2 (by simp; omega)
  rw [List.set_set] at e5
  refine ⟨_, ?_, rfl⟩
  simp [sh__law_moved_3, sh__law_moved_4, c1, c2, e1, e2, e3, z2]
  simp only [e4, if_true, e5, toS_ok]
  try simp
theorem mv3_drop {r : AV} {p : List AV} {a : AV} (h : A.lst? n = some (p ++ [a])) (hl : p.length ≤ 1000) : ∃ A', sh__law_moved_3 [some r, some (.ref n), some (.str "drop"), none] A = .rt (.bl true) A' ∧ A' = A.set n (.lst p) := by
  have c1 : ∀ A, cIn (.str "drop") (.tup [.str "swap", .str "rot"]) A = .ok (.bl false) A := fun _ => rfl
  have c2 : ∀ A, cEq (.str "drop") (.str "swap") A = .ok (.bl false) A := fun _ => rfl
  have c3 : ∀ A, cEq (.str "drop") (.str "drop") A = .ok (.bl true) A := fun _ => rfl
  have c4 : ∀ A, cEq (.str "drop") (.str "dup") A = .ok (.bl false) A := fun _ => rfl
  have z2 : 2 ≤ sizeLine := by decide
  have e1 := rcv_lst h
  have e3 := pop_end h
  refine ⟨_, ?_, rfl⟩
  simp [sh__law_moved_3, sh__law_moved_4, c1, c3, e1, e3, z2]
theorem mv3_dup {r : AV} {p : List AV} {a : AV} (h : A.lst? n = some (p ++ [a])) (hl : p.length ≤ 1000) : ∃ A', sh__law_moved_3 [some r, some (.ref n), some (.str "dup"), none] A = .rt (.bl true) A' ∧ A' = A.set n (.lst (p ++ [a] ++ [a])) := by
  have c1 : ∀ A, cIn (.str "dup") (.tup [.str "swap", .str "rot"]) A = .ok (.bl false) A := fun _ => rfl
  have c2 : ∀ A, cEq (.str "dup") (.str "swap") A = .ok (.bl false) A := fun _ => rfl
  have c3 : ∀ A, cEq (.str "dup") (.str "drop") A = .ok (.bl false) A := fun _ => rfl
  have c4 : ∀ A, cEq (.str "dup") (.str "dup") A = .ok (.bl true) A := fun _ => rfl
  have z2 : 2 ≤ sizeLine := by decide
  have zs : sizeLine = 16777216 := sizeLine_eq
  have e1 := rcv_lst h
  have e2 := len_lst h
  have e3 := ix_lst (i := (p.length : Int)) (v := a) h (by omega) (by simp)
  have e5 := append_lst (v := a) h (by simp; omega)
  refine ⟨_, ?_, rfl⟩
  simp [sh__law_moved_3, sh__law_moved_4, c1, c3, c4, e1, e2, e3, z2]
  simp only [e5, toS_ok]
  try simp
theorem mv3_over {r : AV} {p : List AV} {a b : AV} (h : A.lst? n = some (p ++ [a, b])) (hl : p.length ≤ 1000) : ∃ A', sh__law_moved_3 [some r, some (.ref n), some (.str "over"), none] A = .rt (.bl true) A' ∧ A' = A.set n (.lst (p ++ [a, b] ++ [a])) := by
  have c1 : ∀ A, cIn (.str "over") (.tup [.str "swap", .str "rot"]) A = .ok (.bl false) A := fun _ => rfl
  have c2 : ∀ A, cEq (.str "over") (.str "swap") A = .ok (.bl false) A := fun _ => rfl
  have c3 : ∀ A, cEq (.str "over") (.str "drop") A = .ok (.bl false) A := fun _ => rfl
  have c4 : ∀ A, cEq (.str "over") (.str "dup") A = .ok (.bl false) A := fun _ => rfl
  have z2 : 2 ≤ sizeLine := by decide
  have zs : sizeLine = 16777216 := sizeLine_eq
  have e1 := rcv_lst h
  have e2 := len_lst h
  have e3 := ix_lst (i := (p.length : Int)) (v := a) h (by omega) (by simp)
  have e5 := append_lst (v := a) h (by simp; omega)
  refine ⟨_, ?_, rfl⟩
  simp [sh__law_moved_3, sh__law_moved_4, c1, c3, c4, e1, e2, e3, z2]
  simp only [e5, toS_ok]
  try simp
/-- the law's own step -/
theorem moved_ok {k : Nat} {r : AV} {l : List AV} {o : Option (List AV)} (h : Stp r l o) (hl : l.length ≤ 1000) (e : AH.lst? T k = some l) :
    ∃ T', fn__law_moved [r, .ref (k + 2)] (hp ns g T) = .ok (.bl o.isSome) (hp ns g T') ∧ ∀ l', o = some l' → AH.lst? T' k = some l' := by
  have z2 : 2 ≤ sizeLine := by decide
  have z3 : 3 ≤ sizeLine := by decide
  have z5 : 5 ≤ sizeLine := by decide
  have zs : sizeLine = 16777216 := sizeLine_eq
  have e' : AH.lst? (hp ns g T) (k + 2) = some l := e
  have e1 := rcv_lst e'
  have e2 := len_lst e'
  have hU : AH.lst? (T ++ [.lst [.str "drop", .str "dup", .str "swap", .str "over", .str "rot"]]) k = some l := lst_app e
  have hU' : AH.lst? (hp ns g (T ++ [.lst [.str "drop", .str "dup", .str "swap", .str "over", .str "rot"]])) (k + 2) = some l := hU
  have hM : AH.lst? (hp ns g (T ++ [.lst [.str "drop", .str "dup", .str "swap", .str "over", .str "rot"]])) (T.length + 2) = some [.str "drop", .str "dup", .str "swap", .str "over", .str "rot"] := lst_end
  have hr := rcv_lst hM
  cases h with
  | @put op m l h =>
    have a3 : ∀ A, cIn (.str op) (.tup [.str "lit", .str "data", .str "token"]) A = .ok (.bl true) A := by intro A; rcases h with rfl | rfl | rfl <;> rfl
    have e5 := append_lst (v := .tup [.str op, .int m]) e' (by omega)
    refine ⟨T.set k (.lst (l ++ [.tup [.str op, .int m]])), ?_, fun l' hl' => ?_⟩
    · simp [fn__law_moved, runFn, sh__law_moved, sh__law_moved_0, sh__law_moved_1, a3, e1, z2, z3]
      rw [e5]
      simp
    · cases hl'
      exact lst_set e
  | @oth op v l h =>
    have a3 := fun A => (h A).2.1
    have a4 := fun A => (h A).2.2
    unfold t3 at a3
    unfold t5 at a4
    refine ⟨T, ?_, fun l' hl' => by cases hl'⟩
    simp [fn__law_moved, runFn, sh__law_moved, sh__law_moved_0, sh__law_moved_1, sh__law_moved_2, a3, a4, z3, z5]
  | @dup v p a =>
    have a3 : ∀ A, cIn (.str "dup") (.tup [.str "lit", .str "data", .str "token"]) A = .ok (.bl false) A := fun _ => rfl
    have a4 : ∀ A, cNotIn (.str "dup") (.tup [.str "dup", .str "drop", .str "swap", .str "over", .str "rot"]) A = .ok (.bl false) A := fun _ => rfl
    have a5 : mIndex (.ref (T.length + 2)) [.str "dup"] (hp ns g (T ++ [.lst [.str "drop", .str "dup", .str "swap", .str "over", .str "rot"]])) = .ok (.int 1) (hp ns g (T ++ [.lst [.str "drop", .str "dup", .str "swap", .str "over", .str "rot"]])) := by
      simp only [mIndex, sq_ref, hM]
      rfl
    have a6 : ¬ ((p.length : Int) + 1 < 1) := by omega
    obtain ⟨A', e7, rfl⟩ := mv3_dup (r := .tup [.str "dup", v]) hU' (by simp at hl; omega)
    refine ⟨(T ++ [AO.lst [.str "drop", .str "dup", .str "swap", .str "over", .str "rot"]]).set k (.lst (p ++ [a] ++ [a])), ?_, fun l' hl' => ?_⟩
    · rw [hp_set] at e7
      simp [fn__law_moved, runFn, sh__law_moved, sh__law_moved_0, sh__law_moved_1, sh__law_moved_2, a3, a4, a5, a6, e1, e2, hr, z3, z5, e7]
    · cases hl'
      have q := lst_set (ys := p ++ [a] ++ [a]) hU; simpa using q
  | @dup0 v =>
    have a3 : ∀ A, cIn (.str "dup") (.tup [.str "lit", .str "data", .str "token"]) A = .ok (.bl false) A := fun _ => rfl
    have a4 : ∀ A, cNotIn (.str "dup") (.tup [.str "dup", .str "drop", .str "swap", .str "over", .str "rot"]) A = .ok (.bl false) A := fun _ => rfl
    have a5 : mIndex (.ref (T.length + 2)) [.str "dup"] (hp ns g (T ++ [.lst [.str "drop", .str "dup", .str "swap", .str "over", .str "rot"]])) = .ok (.int 1) (hp ns g (T ++ [.lst [.str "drop", .str "dup", .str "swap", .str "over", .str "rot"]])) := by
      simp only [mIndex, sq_ref, hM]
      rfl
    refine ⟨T ++ [.lst [.str "drop", .str "dup", .str "swap", .str "over", .str "rot"]], ?_, fun l' hl' => by cases hl'⟩
    simp [fn__law_moved, runFn, sh__law_moved, sh__law_moved_0, sh__law_moved_1, sh__law_moved_2, a3, a4, a5, e1, e2, hr, z3, z5]
  | @drop v p a =>
    have a3 : ∀ A, cIn (.str "drop") (.tup [.str "lit", .str "data", .str "token"]) A = .ok (.bl false) A := fun _ => rfl
    have a4 : ∀ A, cNotIn (.str "drop") (.tup [.str "dup", .str "drop", .str "swap", .str "over", .str "rot"]) A = .ok (.bl false) A := fun _ => rfl
    have a5 : mIndex (.ref (T.length + 2)) [.str "drop"] (hp ns g (T ++ [.lst [.str "drop", .str "dup", .str "swap", .str "over", .str "rot"]])) = .ok (.int 0) (hp ns g (T ++ [.lst [.str "drop", .str "dup", .str "swap", .str "over", .str "rot"]])) := by
      simp only [mIndex, sq_ref, hM]
      rfl
    have a6 : ¬ ((p.length : Int) + 1 < 1) := by omega
    obtain ⟨A', e7, rfl⟩ := mv3_drop (r := .tup [.str "drop", v]) hU' (by simp at hl; omega)
    refine ⟨(T ++ [AO.lst [.str "drop", .str "dup", .str "swap", .str "over", .str "rot"]]).set k (.lst (p)), ?_, fun l' hl' => ?_⟩
    · rw [hp_set] at e7
      simp [fn__law_moved, runFn, sh__law_moved, sh__law_moved_0, sh__law_moved_1, sh__law_moved_2, a3, a4, a5, a6, e1, e2, hr, z3, z5, e7]
    · cases hl'
      exact lst_set hU
  | @drop0 v =>
    have a3 : ∀ A, cIn (.str "drop") (.tup [.str "lit", .str "data", .str "token"]) A = .ok (.bl false) A := fun _ => rfl
    have a4 : ∀ A, cNotIn (.str "drop") (.tup [.str "dup", .str "drop", .str "swap", .str "over", .str "rot"]) A = .ok (.bl false) A := fun _ => rfl
    have a5 : mIndex (.ref (T.length + 2)) [.str "drop"] (hp ns g (T ++ [.lst [.str "drop", .str "dup", .str "swap", .str "over", .str "rot"]])) = .ok (.int 0) (hp ns g (T ++ [.lst [.str "drop", .str "dup", .str "swap", .str "over", .str "rot"]])) := by
      simp only [mIndex, sq_ref, hM]
      rfl
    refine ⟨T ++ [.lst [.str "drop", .str "dup", .str "swap", .str "over", .str "rot"]], ?_, fun l' hl' => by cases hl'⟩
    simp [fn__law_moved, runFn, sh__law_moved, sh__law_moved_0, sh__law_moved_1, sh__law_moved_2, a3, a4, a5, e1, e2, hr, z3, z5]
  | @swap v p a b =>
    have a3 : ∀ A, cIn (.str "swap") (.tup [.str "lit", .str "data", .str "token"]) A = .ok (.bl false) A := fun _ => rfl
    have a4 : ∀ A, cNotIn (.str "swap") (.tup [.str "dup", .str "drop", .str "swap", .str "over", .str "rot"]) A = .ok (.bl false) A := fun _ => rfl
    have a5 : mIndex (.ref (T.length + 2)) [.str "swap"] (hp ns g (T ++ [.lst [.str "drop", .str "dup", .str "swap", .str "over", .str "rot"]])) = .ok (.int 2) (hp ns g (T ++ [.lst [.str "drop", .str "dup", .str "swap", .str "over", .str "rot"]])) := by
      simp only [mIndex, sq_ref, hM]
      rfl
    have a6 : ¬ ((p.length : Int) + 2 < 2) := by omega
    obtain ⟨A', e7, rfl⟩ := mv3_swap (r := .tup [.str "swap", v]) hU' (by simp at hl; omega)
    refine ⟨(T ++ [AO.lst [.str "drop", .str "dup", .str "swap", .str "over", .str "rot"]]).set k (.lst (p ++ [b] ++ [a])), ?_, fun l' hl' => ?_⟩
    · rw [hp_set] at e7
      simp [fn__law_moved, runFn, sh__law_moved, sh__law_moved_0, sh__law_moved_1, sh__law_moved_2, a3, a4, a5, a6, e1, e2, hr, z3, z5, e7]
    · cases hl'
      have q := lst_set (ys := p ++ [b] ++ [a]) hU; simpa using q
  | @swap0 v l h =>
    have a3 : ∀ A, cIn (.str "swap") (.tup [.str "lit", .str "data", .str "token"]) A = .ok (.bl false) A := fun _ => rfl
    have a4 : ∀ A, cNotIn (.str "swap") (.tup [.str "dup", .str "drop", .str "swap", .str "over", .str "rot"]) A = .ok (.bl false) A := fun _ => rfl
    have a5 : mIndex (.ref (T.length + 2)) [.str "swap"] (hp ns g (T ++ [.lst [.str "drop", .str "dup", .str "swap", .str "over", .str "rot"]])) = .ok (.int 2) (hp ns g (T ++ [.lst [.str "drop", .str "dup", .str "swap", .str "over", .str "rot"]])) := by
      simp only [mIndex, sq_ref, hM]
      rfl
    have a6 : ((l.length : Int) < 2) := by omega
    refine ⟨T ++ [.lst [.str "drop", .str "dup", .str "swap", .str "over", .str "rot"]], ?_, fun l' hl' => by cases hl'⟩
    simp [fn__law_moved, runFn, sh__law_moved, sh__law_moved_0, sh__law_moved_1, sh__law_moved_2, a3, a4, a5, a6, e1, e2, hr, z3, z5]
  | @over v p a b =>
    have a3 : ∀ A, cIn (.str "over") (.tup [.str "lit", .str "data", .str "token"]) A = .ok (.bl false) A := fun _ => rfl
    have a4 : ∀ A, cNotIn (.str "over") (.tup [.str "dup", .str "drop", .str "swap", .str "over", .str "rot"]) A = .ok (.bl false) A := fun _ => rfl
    have a5 : mIndex (.ref (T.length + 2)) [.str "over"] (hp ns g (T ++ [.lst [.str "drop", .str "dup", .str "swap", .str "over", .str "rot"]])) = .ok (.int 3) (hp ns g (T ++ [.lst [.str "drop", .str "dup", .str "swap", .str "over", .str "rot"]])) := by
      simp only [mIndex, sq_ref, hM]
      rfl
    have a6 : ¬ ((p.length : Int) + 2 < 2) := by omega
    obtain ⟨A', e7, rfl⟩ := mv3_over (r := .tup [.str "over", v]) hU' (by simp at hl; omega)
    refine ⟨(T ++ [AO.lst [.str "drop", .str "dup", .str "swap", .str "over", .str "rot"]]).set k (.lst (p ++ [a, b] ++ [a])), ?_, fun l' hl' => ?_⟩
    · rw [hp_set] at e7
      simp [fn__law_moved, runFn, sh__law_moved, sh__law_moved_0, sh__law_moved_1, sh__law_moved_2, a3, a4, a5, a6, e1, e2, hr, z3, z5, e7]
    · cases hl'
      have q := lst_set (ys := p ++ [a, b] ++ [a]) hU; simpa using q
  | @over0 v l h =>
    have a3 : ∀ A, cIn (.str "over") (.tup [.str "lit", .str "data", .str "token"]) A = .ok (.bl false) A := fun _ => rfl
    have a4 : ∀ A, cNotIn (.str "over") (.tup [.str "dup", .str "drop", .str "swap", .str "over", .str "rot"]) A = .ok (.bl false) A := fun _ => rfl
    have a5 : mIndex (.ref (T.length + 2)) [.str "over"] (hp ns g (T ++ [.lst [.str "drop", .str "dup", .str "swap", .str "over", .str "rot"]])) = .ok (.int 3) (hp ns g (T ++ [.lst [.str "drop", .str "dup", .str "swap", .str "over", .str "rot"]])) := by
      simp only [mIndex, sq_ref, hM]
      rfl
    have a6 : ((l.length : Int) < 2) := by omega
    refine ⟨T ++ [.lst [.str "drop", .str "dup", .str "swap", .str "over", .str "rot"]], ?_, fun l' hl' => by cases hl'⟩
    simp [fn__law_moved, runFn, sh__law_moved, sh__law_moved_0, sh__law_moved_1, sh__law_moved_2, a3, a4, a5, a6, e1, e2, hr, z3, z5]
  | @rot v p a b c =>
    have a3 : ∀ A, cIn (.str "rot") (.tup [.str "lit", .str "data", .str "token"]) A = .ok (.bl false) A := fun _ => rfl
    have a4 : ∀ A, cNotIn (.str "rot") (.tup [.str "dup", .str "drop", .str "swap", .str "over", .str "rot"]) A = .ok (.bl false) A := fun _ => rfl
    have a5 : mIndex (.ref (T.length + 2)) [.str "rot"] (hp ns g (T ++ [.lst [.str "drop", .str "dup", .str "swap", .str "over", .str "rot"]])) = .ok (.int 4) (hp ns g (T ++ [.lst [.str "drop", .str "dup", .str "swap", .str "over", .str "rot"]])) := by
      simp only [mIndex, sq_ref, hM]
      rfl
    have a6 : ¬ ((p.length : Int) + 3 < 3) := by omega
    obtain ⟨A', e7, rfl⟩ := mv3_rot (r := .tup [.str "rot", v]) hU' (by simp at hl; omega)
    refine ⟨(T ++ [AO.lst [.str "drop", .str "dup", .str "swap", .str "over", .str "rot"]]).set k (.lst (p ++ [b, c] ++ [a])), ?_, fun l' hl' => ?_⟩
    · rw [hp_set] at e7
      simp [fn__law_moved, runFn, sh__law_moved, sh__law_moved_0, sh__law_moved_1, sh__law_moved_2, a3, a4, a5, a6, e1, e2, hr, z3, z5, e7]
    · cases hl'
      have q := lst_set (ys := p ++ [b, c] ++ [a]) hU; simpa using q
  | @rot0 v l h =>
    have a3 : ∀ A, cIn (.str "rot") (.tup [.str "lit", .str "data", .str "token"]) A = .ok (.bl false) A := fun _ => rfl
    have a4 : ∀ A, cNotIn (.str "rot") (.tup [.str "dup", .str "drop", .str "swap", .str "over", .str "rot"]) A = .ok (.bl false) A := fun _ => rfl
    have a5 : mIndex (.ref (T.length + 2)) [.str "rot"] (hp ns g (T ++ [.lst [.str "drop", .str "dup", .str "swap", .str "over", .str "rot"]])) = .ok (.int 4) (hp ns g (T ++ [.lst [.str "drop", .str "dup", .str "swap", .str "over", .str "rot"]])) := by
      simp only [mIndex, sq_ref, hM]
      rfl
    have a6 : ((l.length : Int) < 3) := by omega
    refine ⟨T ++ [.lst [.str "drop", .str "dup", .str "swap", .str "over", .str "rot"]], ?_, fun l' hl' => by cases hl'⟩
    simp [fn__law_moved, runFn, sh__law_moved, sh__law_moved_0, sh__law_moved_1, sh__law_moved_2, a3, a4, a5, a6, e1, e2, hr, z3, z5]
end
end K45

set_option Elab.async false
set_option linter.all false
set_option maxRecDepth 100000
set_option maxHeartbeats 4000000
namespace K45
open PySem L2 PyProof.Rows Sh
section
variable {ns : List Int} {g : Bg} {T : AH}
/-! ### rows of steps -/
inductive Runs : List AV → List AV → Option (List AV) → Prop
  | nil {l} : Runs [] l (some l)
  | stop {r rs l} : Stp r l none → Runs (r :: rs) l none
  | more {r rs l l' o} : Stp r l (some l') → Runs rs l' o → Runs (r :: rs) l o
theorem Stp.len {r : AV} {l l' : List AV} (h : Stp r l (some l')) : l'.length ≤ l.length + 1 := by
  cases h <;> simp <;> omega
theorem Stp.item {r : AV} {l l' : List AV} (h : Stp r l (some l')) (hi : ∀ a ∈ l, Item a) : ∀ a ∈ l', Item a := by
  cases h with
  | put h =>
    intro a ha
    rcases List.mem_append.mp ha with q | q
    · exact hi a q
    · rw [List.mem_singleton.mp q]; exact ⟨_, _, rfl⟩
  | _ =>
    intro a ha
    refine hi a ?_
    simp at ha ⊢
    try (rcases ha with q | q | q <;> simp [q]; done)
    try (rcases ha with q | q <;> simp [q]; done)
    try (rcases ha with q | q | q | q <;> simp [q]; done)
    try (simp [ha])
theorem Runs.len {rs l : List AV} {o : Option (List AV)} (h : Runs rs l o) : ∀ l', o = some l' → l'.length ≤ l.length + rs.length := by
  induction h with
  | nil => intro l' e; cases e; simp
  | stop _ => intro l' e; cases e
  | more h1 _ ih => intro l' e; have := ih l' e; have := h1.len; simp; omega
theorem Runs.item {rs l : List AV} {o : Option (List AV)} (h : Runs rs l o) (hi : ∀ a ∈ l, Item a) : ∀ l', o = some l' → ∀ a ∈ l', Item a := by
  induction h with
  | nil => intro l' e; cases e; exact hi
  | stop _ => intro l' e; cases e
  | more h1 _ ih => exact ih (h1.item hi)
theorem runs_ex {rs : List AV} (h : ∀ r ∈ rs, Row r) : ∀ l, ∃ o, Runs rs l o := by
  induction rs with
  | nil => exact fun l => ⟨_, .nil⟩
  | cons r rs ih =>
    intro l
    obtain ⟨o, ho⟩ := stp_ex l (h r (by simp))
    cases o with
    | none => exact ⟨_, .stop ho⟩
    | some l' =>
      obtain ⟨o2, h2⟩ := ih (fun r hr => h r (by simp [hr])) l'
      exact ⟨_, .more ho h2⟩
/-- the rows from a place up to a goal -/
def seg (body : List AV) (p q : Nat) : List AV := (body.drop p).take (q - p)
theorem seg_cons {body : List AV} {p q : Nat} (h : p < q) (hq : q ≤ body.length) : seg body p q = body[p]'(by omega) :: seg body (p + 1) q := by
  unfold seg
  rw [List.drop_eq_getElem_cons (by omega), show q - p = (q - (p + 1)) + 1 by omega, List.take_succ_cons]
theorem seg_nil {body : List AV} {p : Nat} : seg body p p = [] := by
  unfold seg
  simp
theorem seg_app {body : List AV} {p m q : Nat} (h : p ≤ m) (h2 : m ≤ q) (hq : q ≤ body.length) : seg body p q = seg body p m ++ seg body m q := by
  induction hd : m - p generalizing p with
  | zero =>
    have : p = m := by omega
    subst this
    rw [seg_nil]
    rfl
  | succ d ih =>
    rw [seg_cons (by omega) hq, seg_cons (by omega) (by omega : m ≤ body.length), ih (by omega) (by omega)]
    rfl
theorem seg_len {body : List AV} {p q : Nat} (hq : q ≤ body.length) : (seg body p q).length ≤ q - p := by
  unfold seg
  simp
  omega
theorem ix_nat {xs : List AV} {k : Nat} {A : AH} (h : k < xs.length) : opIx (.tup xs) (.int (k : Int)) A = .ok xs[k] A := by
  show atA _ _ _ = _
  exact atA_get (by omega) (by simp [h])
theorem as_loop {body : List AV} {q : Nat} {A : AH} (hq : q ≤ body.length) : ∀ (d m p : Nat) (l : List AV) (o : Option (List AV)), p + d = q → d < m → l.length + d ≤ 1000 → Runs (seg body p q) l o →
    (∃ ℓ, whileLoop (tOfE (eOp cNe (eVar 1) (eVar 3))) sh_after_steps_0b_0 m [some (.tup body), some (.int p), some (.tup l), some (.int q)] A = .nx ℓ A ∧ ∃ l', o = some l' ∧ ∃ p', ℓ = [some (.tup body), p', some (.tup l'), some (.int q)]) ∨
    (o = none ∧ whileLoop (tOfE (eOp cNe (eVar 1) (eVar 3))) sh_after_steps_0b_0 m [some (.tup body), some (.int p), some (.tup l), some (.int q)] A = .rt .non A) := by
  intro d
  induction d with
  | zero =>
    intro m p l o hp hm hl h
    have : p = q := by omega
    subst this
    rw [seg_nil] at h
    cases h
    obtain ⟨m', rfl⟩ : ∃ m', m = m' + 1 := ⟨m - 1, by omega⟩
    refine .inl ⟨[some (.tup body), some (.int p), some (.tup l), some (.int p)], ?_, l, rfl, _, rfl⟩
    unfold whileLoop
    simp
  | succ d ih =>
    intro m p l o hp hm hl h
    obtain ⟨m', rfl⟩ : ∃ m', m = m' + 1 := ⟨m - 1, by omega⟩
    rw [seg_cons (by omega) hq] at h
    have hne : ¬ ((p : Int) = (q : Int)) := by omega
    have hgt : ¬ ((q : Int) < (p : Int)) := by omega
    have hne' : ((p : Int) == (q : Int)) = false := by simp; omega
    have hx := ix_nat (xs := body) (k := p) (A := A) (by omega)
    cases h with
    | stop h1 =>
      have e := layout_step_ok (A := A) h1 (by omega)
      refine .inr ⟨rfl, ?_⟩
      unfold whileLoop
      simp [hne', sh_after_steps_0b_0, sh_after_steps_0b_1, sh_after_steps_0b_2, hgt, hx, g_layout_step, e, asAV, isNonB]
    | @more _ _ _ l1 _ h1 h2 =>
      have e := layout_step_ok (A := A) h1 (by omega)
      have hl1 := h1.len
      have ih' := ih m' (p + 1) l1 o (by omega) (by omega) (by omega) h2
      have step : whileLoop (tOfE (eOp cNe (eVar 1) (eVar 3))) sh_after_steps_0b_0 (m' + 1) [some (.tup body), some (.int p), some (.tup l), some (.int q)] A = whileLoop (tOfE (eOp cNe (eVar 1) (eVar 3))) sh_after_steps_0b_0 m' [some (.tup body), some (.int ((p + 1 : Nat) : Int)), some (.tup l1), some (.int q)] A := by
        rw [whileLoop]
        simp [hne', sh_after_steps_0b_0, sh_after_steps_0b_1, sh_after_steps_0b_2, sh_after_steps_0b_3, hgt, hx, g_layout_step, e, asAV, isNonB]
      rw [step]
      exact ih'
theorem after_steps_ok {body l : List AV} {p q : Nat} {o : Option (List AV)} {A : AH} (hp : p ≤ q) (hq : q ≤ body.length) (hb : body.length ≤ 40) (hl : l.length ≤ 200) (h : Runs (seg body p q) l o) : fn_after_steps [.tup body, .int p, .tup l, .int q] A = .ok (asAV o) A := by
  have hf : q - p < whileFuel := by unfold whileFuel; omega
  rcases as_loop (A := A) hq (q - p) whileFuel p l o (by omega) hf (by omega) h with ⟨ℓ, e, l', rfl, p', rfl⟩ | ⟨rfl, e⟩
  · simp [fn_after_steps, runFn, sh_after_steps, sh_after_steps_0, sh_after_steps_1, sWhile, e, asAV]
  · simp [fn_after_steps, runFn, sh_after_steps, sh_after_steps_0, sh_after_steps_1, sWhile, e, asAV]
theorem after_steps_back {body : List AV} {l : AV} {p q : Nat} {A : AH} (hp : q < p) : fn_after_steps [.tup body, .int p, l, .int q] A = .ok .non A := by
  have hgt : (q : Int) < (p : Int) := by omega
  have hne' : ((p : Int) == (q : Int)) = false := by simp; omega
  have e : whileLoop (tOfE (eOp cNe (eVar 1) (eVar 3))) sh_after_steps_0b_0 (999999999 + 1) [some (.tup body), some (.int p), some l, some (.int q)] A = .rt .non A := by
    rw [whileLoop]
    simp [hne', sh_after_steps_0b_0, hgt]
  have e2 : whileLoop (tOfE (eOp cNe (eVar 1) (eVar 3))) sh_after_steps_0b_0 whileFuel [some (.tup body), some (.int p), some l, some (.int q)] A = .rt .non A := e
  simp [fn_after_steps, runFn, sh_after_steps, sh_after_steps_0, sh_after_steps_1, sWhile, e2]
end
end K45

set_option Elab.async false
set_option linter.all false
set_option maxRecDepth 100000
set_option maxHeartbeats 4000000
namespace K45
open PySem L2 PyProof.Rows Sh
section
variable {ns : List Int} {g : Bg} {T : AH}
theorem due_loop {body xs : List AV} {q k : Nat} (hq : q ≤ body.length) : ∀ (d m i p : Nat) (l : List AV) (o : Option (List AV)) (T : AH) (x4 : Option AV), p + d = q → d < m → i + m = xs.length → l.length + d ≤ 1000 → AH.lst? T k = some l → Runs (seg body p q) l o →
    ∃ T', forLoop (wPure xs) (gNm 4) sh__law_due_0b_0 m i [some (.tup body), some (.int p), some (.ref (k + 2)), some (.int q), x4] (hp ns g T) = .rt (asAV o) (hp ns g T') := by
  intro d
  induction d with
  | zero =>
    intro m i p l o T x4 hpd hm hi hl e h
    have : p = q := by omega
    subst this
    rw [seg_nil] at h
    cases h
    obtain ⟨m', rfl⟩ : ∃ m', m = m' + 1 := ⟨m - 1, by omega⟩
    refine ⟨T, ?_⟩
    have e0 : (wPure xs).get i (hp ns g T) = some (xs[i]'(by omega)) := List.getElem?_eq_getElem (by omega)
    have e1 := tuple_lst (A := hp ns g T) (n := k + 2) e
    unfold forLoop
    rw [e0]
    simp [sh__law_due_0b_0, e1, asAV]
  | succ d ih =>
    intro m i p l o T x4 hpd hm hi hl e h
    obtain ⟨m', rfl⟩ : ∃ m', m = m' + 1 := ⟨m - 1, by omega⟩
    rw [seg_cons (by omega) hq] at h
    have hgt : ¬ ((q : Int) < (p : Int)) := by omega
    have hne' : ((p : Int) == (q : Int)) = false := by simp; omega
    have hx : ∀ A, opIx (.tup body) (.int (p : Int)) A = .ok (body[p]'(by omega)) A := fun A => ix_nat (by omega)
    have e0 : (wPure xs).get i (hp ns g T) = some (xs[i]'(by omega)) := List.getElem?_eq_getElem (by omega)
    cases h with
    | stop h1 =>
      obtain ⟨T1, e1, _⟩ := moved_ok (ns := ns) (g := g) h1 (by omega) e
      refine ⟨T1, ?_⟩
      unfold forLoop
      rw [e0]
      simp [sh__law_due_0b_0, sh__law_due_0b_1, hne', hgt, hx, g__law_moved, e1, asAV]
    | @more _ _ _ l1 _ h1 h2 =>
      obtain ⟨T1, e1, e2⟩ := moved_ok (ns := ns) (g := g) h1 (by omega) e
      have hl1 := h1.len
      obtain ⟨T2, e3⟩ := ih m' (i + 1) (p + 1) l1 o T1 (some (xs[i]'(by omega))) (by omega) (by omega) (by omega) (by omega) (e2 _ rfl) h2
      refine ⟨T2, ?_⟩
      rw [← e3]
      rw [forLoop]
      rw [e0]
      simp [sh__law_due_0b_0, sh__law_due_0b_1, sh__law_due_0b_2, hne', hgt, hx, g__law_moved, e1, asAV]
theorem due_ok {body l : List AV} {p q k : Nat} {o : Option (List AV)} (hpq : p ≤ q) (hq : q ≤ body.length) (hb : body.length ≤ 40) (hl : l.length ≤ 200) (e : AH.lst? T k = some l) (h : Runs (seg body p q) l o) :
    ∃ T', fn__law_due [.tup body, .int p, .ref (k + 2), .int q] (hp ns g T) = .ok (asAV o) (hp ns g T') := by
  have hlr : (rangeA 0 (body.length + 1)).length = body.length + 1 := by simp [rangeA]
  obtain ⟨T', e1⟩ := due_loop (ns := ns) (g := g) (xs := rangeA 0 (body.length + 1)) (k := k) hq (q - p) (wPure (rangeA 0 (body.length + 1))).n 0 p l o T none (by omega) (by show _ < (rangeA 0 (body.length + 1)).length; omega) (by show 0 + (rangeA 0 (body.length + 1)).length = _; omega) (by omega) e h
  have hi : iRange (aCons (eOp opAdd (eCB bLen (aCons (eVar 0) aNil)) (eC (.int 1))) aNil) [some (.tup body), some (.int p), some (.ref (k + 2)), some (.int q), none] (hp ns g T) = .ok (wPure (rangeA 0 (body.length + 1))) (hp ns g T) := iRangeN (by simp) (by omega)
  refine ⟨T', ?_⟩
  have hF := for_eq (tg := gNm 4) (body := sh__law_due_0b_0) hi
  simp [fn__law_due, runFn, sh__law_due, sh__law_due_0, hF, e1]
theorem due_back {body : List AV} {p q : Nat} {x : AV} {A : AH} (hpq : q < p) (hb : body.length ≤ 40) : fn__law_due [.tup body, .int p, x, .int q] A = .ok .non A := by
  have hgt : (q : Int) < (p : Int) := by omega
  have hne' : ((p : Int) == (q : Int)) = false := by simp; omega
  have hi : iRange (aCons (eOp opAdd (eCB bLen (aCons (eVar 0) aNil)) (eC (.int 1))) aNil) [some (.tup body), some (.int p), some x, some (.int q), none] A = .ok (wPure (rangeA 0 (body.length + 1))) A := iRangeN (by simp) (by omega)
  have hlr : (wPure (rangeA 0 (body.length + 1))).n = body.length + 1 := by show (rangeA 0 (body.length + 1)).length = _; simp [rangeA]
  have e0 : (wPure (rangeA 0 (body.length + 1))).get 0 A = some (.int 0) := by
    show (rangeA 0 (body.length + 1))[0]? = _
    simp [rangeA]
  have hF := for_eq (tg := gNm 4) (body := sh__law_due_0b_0) hi
  have hG : forLoop (wPure (rangeA 0 (body.length + 1))) (gNm 4) sh__law_due_0b_0 (wPure (rangeA 0 (body.length + 1))).n 0 [some (.tup body), some (.int p), some x, some (.int q), none] A = .rt .non A := by
    rw [hlr]
    unfold forLoop
    rw [e0]
    simp [sh__law_due_0b_0, sh__law_due_0b_1, hne', hgt]
  rw [hG] at hF
  simp [fn__law_due, runFn, sh__law_due, sh__law_due_0, hF]
/-! ### the comparison -/
theorem item_dat {A : AH} {n : Nat} {a : AV} (h : Item a) : ∃ d, dat A (n + 1) a = some d := by
  obtain ⟨s, m, rfl⟩ := h
  cases n <;> exact ⟨_, rfl⟩
theorem items_dat {A : AH} {n : Nat} : ∀ {l : List AV}, (∀ a ∈ l, Item a) → ∃ ds, datsBy (dat A (n + 1)) l = some ds
  | [], _ => ⟨[], rfl⟩
  | a :: l, h => by
    obtain ⟨d, e1⟩ := item_dat (A := A) (n := n) (h a (by simp))
    obtain ⟨ds, e2⟩ := items_dat (A := A) (n := n) (l := l) (fun b hb => h b (by simp [hb]))
    refine ⟨d :: ds, ?_⟩
    unfold datsBy
    rw [e1, e2]
theorem tup_dat {A : AH} {l : List AV} (h : ∀ a ∈ l, Item a) : ∃ d, dat A depthD (.tup l) = some d := by
  obtain ⟨ds, e⟩ := items_dat (A := A) (n := 10) h
  refine ⟨.tuple ds, ?_⟩
  show (datsBy (dat A 11) l).map PyData.tuple = _
  rw [e]
  rfl
theorem same_loop {l : List AV} {xs : List AV} {A : AH} (hx : ∀ i (h : i < xs.length), xs[i] = .int (i : Int)) (hl : xs.length = l.length) (hi : ∀ a ∈ l, Item a) : ∀ (m i : Nat) (x : Option AV), i + m = xs.length → ∃ y, forLoop (wPure xs) (gNm 2) sh__law_same_2b_0 m i [some (.tup l), some (.tup l), x] A = .nx [some (.tup l), some (.tup l), y] A
  | 0, i, x, h => ⟨x, rfl⟩
  | m + 1, i, x, h => by
    obtain ⟨y, e⟩ := same_loop (A := A) hx hl hi m (i + 1) (some (.int (i : Int))) (by omega)
    refine ⟨y, ?_⟩
    have e0 : (wPure xs).get i A = some (.int (i : Int)) := by
      show xs[i]? = _
      rw [List.getElem?_eq_getElem (by omega), hx i (by omega)]
    obtain ⟨s, n, e1⟩ := hi (l[i]'(by omega)) (List.getElem_mem _)
    have e2 : opIx (.tup l) (.int (i : Int)) A = .ok (.tup [.str s, .int n]) A := by rw [ix_nat (by omega), e1]
    have b1 : bIsi [.tup [.str s, .int n], .ty "tuple"] A = .ok (.bl true) A := rfl
    have b2 : bIsi [.int n, .ty "int"] A = .ok (.bl true) A := rfl
    have b3 : bIsi [.int n, .ty "bool"] A = .ok (.bl false) A := rfl
    rw [← e]
    rw [forLoop]
    rw [e0]
    simp [sh__law_same_2b_0, e2, b1, g__law_integer, fn__law_integer, runFn, sh__law_integer, b2, b3]
theorem same_tup {l : List AV} {A : AH} (hi : ∀ a ∈ l, Item a) (hl : l.length ≤ 1000) : fn__law_same [.tup l, .tup l] A = .ok (.bl true) A := by
  have b1 : bIsi [.tup l, .ty "tuple"] A = .ok (.bl true) A := rfl
  have hr : (rangeA 0 l.length).length = l.length := by simp [rangeA]
  have hx : ∀ i (h : i < (rangeA 0 l.length).length), (rangeA 0 l.length)[i] = .int (i : Int) := by
    intro i h
    simp [rangeA]
  obtain ⟨y, e⟩ := same_loop (A := A) hx hr hi (wPure (rangeA 0 l.length)).n 0 none (by show 0 + (rangeA 0 l.length).length = _; omega)
  have hI : iRange (aCons (eCB bLen (aCons (eVar 1) aNil)) aNil) [some (.tup l), some (.tup l), none] A = .ok (wPure (rangeA 0 l.length)) A := iRangeN (by simp) (by omega)
  obtain ⟨d, hd⟩ := tup_dat (A := A) hi
  have e2 := cEq_self hd
  have hF := for_eq (tg := gNm 2) (body := sh__law_same_2b_0) hI
  rw [e] at hF
  simp [fn__law_same, runFn, sh__law_same, sh__law_same_0, sh__law_same_1, sh__law_same_2, sh__law_same_3, isNonB, b1, hF, e2]
theorem same_non {A : AH} : fn__law_same [.non, .non] A = .ok (.bl true) A := rfl
theorem same_ok {o : Option (List AV)} {A : AH} (hi : ∀ l, o = some l → ∀ a ∈ l, Item a) (hl : ∀ l, o = some l → l.length ≤ 1000) : fn__law_same [asAV o, asAV o] A = .ok (.bl true) A := by
  cases o with
  | none => exact same_non
  | some l => exact same_tup (hi l rfl) (hl l rfl)
/-! ### the items put in -/
def fI (its : List AV) (a : AV) : AV := match a with
  | .tup [.str s, .int n] => if PyData.eqv (.str s) (.str "reg") then its[(n % 8).toNat]?.getD .non else a
  | a => a
theorem fI_item {its : List AV} {a : AV} (h8 : its.length = 8) (hi : ∀ a ∈ its, Item a) (h : Item a) : Item (fI its a) := by
  obtain ⟨s, n, rfl⟩ := h
  unfold fI
  simp only
  split
  · have hn : (n % 8).toNat < its.length := by omega
    rw [List.getElem?_eq_getElem hn]
    exact hi _ (List.getElem_mem hn)
  · exact ⟨_, _, rfl⟩
theorem Stp.map {its : List AV} {r : AV} {l : List AV} {o : Option (List AV)} (h : Stp r l o) : Stp r (l.map (fI its)) (o.map (List.map (fI its))) := by
  cases h with
  | @put op n l h =>
    have e : fI its (.tup [.str op, .int n]) = .tup [.str op, .int n] := by rcases h with rfl | rfl | rfl <;> rfl
    simp only [Option.map, List.map_append, List.map_cons, List.map_nil, e]
    exact .put h
  | dup => simp only [Option.map, List.map_append, List.map_cons, List.map_nil]; exact .dup
  | dup0 => exact .dup0
  | drop => simp only [Option.map, List.map_append, List.map_cons, List.map_nil]; exact .drop
  | drop0 => exact .drop0
  | swap => simp only [Option.map, List.map_append, List.map_cons, List.map_nil]; exact .swap
  | swap0 h => exact .swap0 (by simpa using h)
  | over => simp only [Option.map, List.map_append, List.map_cons, List.map_nil]; exact .over
  | over0 h => exact .over0 (by simpa using h)
  | rot => simp only [Option.map, List.map_append, List.map_cons, List.map_nil]; exact .rot
  | rot0 h => exact .rot0 (by simpa using h)
  | oth h => exact .oth h
theorem Runs.map {its rs l : List AV} {o : Option (List AV)} (h : Runs rs l o) : Runs rs (l.map (fI its)) (o.map (List.map (fI its))) := by
  induction h with
  | nil => exact .nil
  | stop h => exact .stop (h.map (its := its))
  | more h _ ih => exact .more (h.map (its := its)) ih
theorem items_ok {l its : List AV} {k : Nat} (e : AH.lst? T k = some its) (h8 : its.length = 8) (hl : l.length ≤ 1000) (hi : ∀ a ∈ l, Item a) : fn__law_items [.tup l, .ref (k + 2)] (hp ns g T) = .ok (.tup (l.map (fI its))) (hp ns g (T ++ [.lst (l.map (fI its))])) := by
  have zs : sizeLine = 16777216 := sizeLine_eq
  have e1 := lc_map (A := hp ns g T) (tg := gNm 2) (elt := eIf (tOfE (eOp cEq (eOp opIx (eVar 2) (eC (.int 0))) (eC (.str "reg")))) (eOp opIx (eVar 1) (eOp opMod (eCB bInt (aCons (eOp opIx (eVar 2) (eC (.int 1))) aNil)) (eC (.int 8)))) (eVar 2)) (xs := l) (ℓ0 := [some (.tup l), some (.ref (k + 2)), none]) (fI its) (by
    intro x hx
    obtain ⟨s, n, rfl⟩ := hi x hx
    refine ⟨_, rfl, ?_⟩
    have c1 : cEq (.str s) (.str "reg") (hp ns g T) = .ok (.bl (PyData.eqv (.str s) (.str "reg"))) (hp ns g T) := rfl
    have hn : (n % 8).toNat < its.length := by omega
    have c2 := ix_lst (A := hp ns g T) (k := k + 2) (i := n % 8) e (by omega) (List.getElem?_eq_getElem hn)
    simp [c1, c2, fI]
    split <;> simp [List.getElem?_eq_getElem hn]) (wPure l).n 0 [] (by show 0 + l.length = _; omega) (by show 0 + l.length ≤ _; omega)
  have e2 := tuple_lst (A := hp ns g (T ++ [.lst (l.map (fI its))])) (n := T.length + 2) lst_end
  simp only [List.drop_zero, List.nil_append] at e1
  simp only [fn__law_items, runFn, sh__law_items, List.map, List.length, List.replicate, List.cons_append, List.nil_append, sRet_ap, eCB_ap, aCons_ap, eLc_ap, iVal_ap, eVar0, bind_ok, asWalk_tup, wipeA, List.set, e1]
  simp [e2]
end
end K45

set_option Elab.async false
set_option linter.all false
set_option maxRecDepth 100000
set_option maxHeartbeats 4000000
namespace K45
open PySem L2 PyProof.Rows Sh
section
variable {ns : List Int} {g : Bg} {T : AH}
theorem Runs.split {rs' : List AV} : ∀ {rs l : List AV} {o : Option (List AV)}, Runs (rs ++ rs') l o → ∃ o1, Runs rs l o1 ∧ ∀ l', o = some l' → ∃ l1, o1 = some l1 ∧ Runs rs' l1 o
  | [], l, o, h => ⟨some l, .nil, fun l' _ => ⟨l, rfl, h⟩⟩
  | r :: rs, l, o, h => by
    cases h with
    | stop h => exact ⟨none, .stop h, fun l' e => by cases e⟩
    | more h h2 =>
      obtain ⟨o1, h3, h4⟩ := Runs.split h2
      exact ⟨o1, .more h h3, h4⟩
/-- what is told of a way from a place to a goal -/
structure Fx (body l : List AV) (p q : Nat) (o : Option (List AV)) : Prop where
  as_ : ∀ A, fn_after_steps [.tup body, .int p, .tup l, .int q] A = .ok (asAV o) A
  mp : ∀ its A, fn_after_steps [.tup body, .int p, .tup (l.map (fI its)), .int q] A = .ok (asAV (o.map (List.map (fI its)))) A
  due : ∀ ns g T k, AH.lst? T k = some l → ∃ T', fn__law_due [.tup body, .int p, .ref (k + 2), .int q] (hp ns g T) = .ok (asAV o) (hp ns g T')
  it : ∀ l', o = some l' → ∀ a ∈ l', Item a
  ln : ∀ l', o = some l' → l'.length ≤ 200
theorem seg_le {body : List AV} {p q : Nat} : (seg body p q).length ≤ body.length := by
  unfold seg
  simp
  omega
theorem fx_run {body l : List AV} {p q : Nat} {o : Option (List AV)} (hb : body.length ≤ 40) (hpq : p ≤ q) (hq : q ≤ body.length) (hl : l.length ≤ 100) (hi : ∀ a ∈ l, Item a) (h : Runs (seg body p q) l o) : Fx body l p q o :=
  ⟨fun A => after_steps_ok hpq hq hb (by omega) h, fun its A => after_steps_ok hpq hq hb (by rw [List.length_map]; omega) h.map, fun ns g T k e => due_ok hpq hq hb (by omega) e h, h.item hi, fun l' e => by
    have := h.len l' e
    have := seg_le (body := body) (p := p) (q := q)
    omega⟩
theorem fx_back {body l : List AV} {p q : Nat} (hb : body.length ≤ 40) (hpq : q < p) : Fx body l p q none :=
  ⟨fun A => after_steps_back hpq, fun its A => after_steps_back hpq, fun ns g T k e => ⟨T, due_back hpq hb⟩, fun _ e => (by cases e), fun _ e => (by cases e)⟩
structure Fy (body l : List AV) (p q : Nat) (o : Option (List AV)) : Prop where
  fx : Fx body l p q o
  sp : ∀ b, p ≤ b → (b ≤ q ∨ b = p) → ∃ o1, Fx body l p b o1 ∧ ∀ l', o = some l' → ∃ l1, o1 = some l1 ∧ ∀ A, fn_after_steps [.tup body, .int b, .tup l1, .int q] A = .ok (asAV o) A
theorem fy_ex {body l : List AV} {p q : Nat} (hr : ∀ r ∈ body, Row r) (hb : body.length ≤ 40) (hp : p < body.length) (hq : q < body.length) (hl : l.length ≤ 20) (hi : ∀ a ∈ l, Item a) : ∃ o, Fy body l p q o := by
  by_cases hpq : p ≤ q
  · obtain ⟨o, h⟩ := runs_ex (rs := seg body p q) (fun r h => hr r (List.mem_of_mem_drop (List.mem_of_mem_take h))) l
    refine ⟨o, fx_run hb hpq (by omega) (by omega) hi h, fun b b1 b2 => ?_⟩
    have hbq : b ≤ q := by omega
    rw [seg_app b1 hbq (by omega)] at h
    obtain ⟨o1, h1, h2⟩ := h.split
    refine ⟨o1, fx_run hb b1 (by omega) (by omega) hi h1, fun l' e => ?_⟩
    obtain ⟨l1, e1, h3⟩ := h2 l' e
    have hl1 := h1.len l1 e1
    have := seg_le (body := body) (p := p) (q := b)
    exact ⟨l1, e1, fun A => after_steps_ok hbq (by omega) hb (by omega) h3⟩
  · refine ⟨none, fx_back hb (by omega), fun b b1 b2 => ?_⟩
    have : b = p := by omega
    subst this
    exact ⟨some l, fx_run hb (Nat.le_refl _) (by omega) (by omega) hi (by rw [seg_nil]; exact .nil), fun l' e => by cases e⟩
@[simp] theorem eVar14 {v : AV} {a b c d e f g h i j k l m n : Option AV} {r : LSt} {A : AH} : eVar 14 (a :: b :: c :: d :: e :: f :: g :: h :: i :: j :: k :: l :: m :: n :: some v :: r) A = .ok v A := rfl
/-- the end of a round -/
def Nx (ns : List Int) (r : SRes) : Prop := ∃ g T s rest, rest.length = 13 ∧ r = .nx (some s :: some (.ref 1) :: rest) (hp ns g T) ∧ 0 ≤ g.at_
variable {body l : List AV} {p q : Nat} {o : Option (List AV)} {s : AV} {x2 x5 x8 x9 x10 x11 x12 x13 x14 : Option AV}
theorem same_o {o : Option (List AV)} {A : AH} (hi : ∀ l, o = some l → ∀ a ∈ l, Item a) (hl : ∀ l, o = some l → l.length ≤ 200) : fn__law_same [asAV o, asAV o] A = .ok (.bl true) A := same_ok hi fun l e => by have := hl l e; omega
theorem r16 (F : Fx body l p q o) (ok : 0 ≤ g.at_) : Nx ns (sh_law_1b_16 [some s, some (.ref 1), x2, some (.tup body), some (.tup l), x5, some (.int p), some (.int q), some (asAV o), x9, x10, x11, x12, x13, x14] (hp ns g T)) := by
  have e1 := F.as_ (hp ns g T)
  have e2 := same_o (A := hp ns g T) F.it F.ln
  refine ⟨g, T, s, [x2, some (.tup body), some (.tup l), x5, some (.int p), some (.int q), some (asAV o), x9, x10, x11, x12, x13, x14], rfl, ?_, ok⟩
  simp [sh_law_1b_16, g_after_steps, g__law_same, e1, e2]
theorem cNe_bl {a b : Bool} {A : AH} : cNe (.bl a) (.bl b) A = .ok (.bl (!(a == b))) A := by
  show Res.ok (AV.bl (!PyData.eqv (.bool a) (.bool b))) A = _
  unfold PyData.eqv
  rfl
theorem r15 {its : List AV} {k : Nat} (F : Fx body l p q o) (ok : 0 ≤ g.at_) (e : AH.lst? T k = some its) (h8 : its.length = 8) (hi : ∀ a ∈ its, Item a) : Nx ns (sh_law_1b_15 [some s, some (.ref 1), x2, some (.tup body), some (.tup l), x5, some (.int p), some (.int q), some (asAV o), x9, x10, x11, some (.ref (k + 2)), some (asAV (o.map (List.map (fI its)))), x14] (hp ns g T)) := by
  cases o with
  | none =>
    have e1 : sh_law_1b_15 [some s, some (.ref 1), x2, some (.tup body), some (.tup l), x5, some (.int p), some (.int q), some (asAV none), x9, x10, x11, some (.ref (k + 2)), some (asAV (Option.map (List.map (fI its)) none)), x14] (hp ns g T) = sh_law_1b_16 [some s, some (.ref 1), x2, some (.tup body), some (.tup l), x5, some (.int p), some (.int q), some (asAV none), x9, x10, x11, some (.ref (k + 2)), some (asAV (Option.map (List.map (fI its)) none)), x14] (hp ns g T) := by
      simp [sh_law_1b_15, asAV, isNonB, cNe_bl]
    rw [e1]
    exact r16 F ok
  | some l' =>
    have e2 := items_ok (ns := ns) (g := g) (l := l') e h8 (by have := F.ln l' rfl; omega) (F.it l' rfl)
    obtain ⟨d, hd⟩ := tup_dat (A := hp ns g (T ++ [.lst (l'.map (fI its))])) (l := l'.map (fI its)) (by
      intro a ha
      obtain ⟨b, hb, rfl⟩ := List.mem_map.mp ha
      exact fI_item h8 hi (F.it l' rfl b hb))
    have e3 := cNe_self hd
    have e1 : sh_law_1b_15 [some s, some (.ref 1), x2, some (.tup body), some (.tup l), x5, some (.int p), some (.int q), some (asAV (some l')), x9, x10, x11, some (.ref (k + 2)), some (asAV (Option.map (List.map (fI its)) (some l'))), x14] (hp ns g T) = sh_law_1b_16 [some s, some (.ref 1), x2, some (.tup body), some (.tup l), x5, some (.int p), some (.int q), some (asAV (some l')), x9, x10, x11, some (.ref (k + 2)), some (asAV (Option.map (List.map (fI its)) (some l'))), x14] (hp ns g (T ++ [.lst (l'.map (fI its))])) := by
      simp [sh_law_1b_15, asAV, isNonB, cNe_bl, g__law_items, e2, e3]
    rw [e1]
    exact r16 F ok
theorem r14 {its : List AV} {k : Nat} (F : Fx body l p q o) (hl : l.length ≤ 20) (hli : ∀ a ∈ l, Item a) (ok : 0 ≤ g.at_) (e : AH.lst? T k = some its) (h8 : its.length = 8) (hi : ∀ a ∈ its, Item a) : Nx ns (sh_law_1b_14 [some s, some (.ref 1), x2, some (.tup body), some (.tup l), x5, some (.int p), some (.int q), some (asAV o), x9, x10, x11, some (.ref (k + 2)), x13, x14] (hp ns g T)) := by
  have e2 := items_ok (ns := ns) (g := g) (l := l) e h8 (by omega) hli
  have e3 := F.mp its (hp ns g (T ++ [.lst (l.map (fI its))]))
  have e1 : sh_law_1b_14 [some s, some (.ref 1), x2, some (.tup body), some (.tup l), x5, some (.int p), some (.int q), some (asAV o), x9, x10, x11, some (.ref (k + 2)), x13, x14] (hp ns g T) = sh_law_1b_15 [some s, some (.ref 1), x2, some (.tup body), some (.tup l), x5, some (.int p), some (.int q), some (asAV o), x9, x10, x11, some (.ref (k + 2)), some (asAV (o.map (List.map (fI its)))), x14] (hp ns g (T ++ [.lst (l.map (fI its))])) := by
    simp only [sh_law_1b_14]
    simp [g__law_items, g_after_steps, e2, e3]
  rw [e1]
  exact r15 F ok (lst_app e) h8 hi
theorem r13 (F : Fx body l p q o) (hl : l.length ≤ 20) (hli : ∀ a ∈ l, Item a) (ok : 0 ≤ g.at_) : Nx ns (sh_law_1b_13 [some s, some (.ref 1), x2, some (.tup body), some (.tup l), x5, some (.int p), some (.int q), some (asAV o), x9, x10, x11, x12, x13, x14] (hp ns g T)) := by
  have z2 : 2 ≤ sizeLine := by decide
  have z4 : 40 < sizeLine := by decide
  have m1 : small64 100 = true := by decide
  obtain ⟨out, A', e, ⟨g1, T1, rfl, ok1⟩, hP, hl8⟩ := lc_inv (tg := gNm 14) (elt := eTup (aCons (eC (.str "lit")) (aCons (eOp opAdd (eOp opAdd (eC (.int 5000)) (eCall g__law_pick (aCons (eVar 1) (aCons (eC (.int 90)) aNil)))) (eOp opMul (eC (.int 100)) (eVar 14))) aNil))) (xs := rangeA 0 8) (ℓ0 := [some s, some (.ref 1), x2, some (.tup body), some (.tup l), x5, some (.int p), some (.int q), some (asAV o), x9, x10, x11, x12, x13, none])
    (fun A => ∃ g' T', A = hp ns g' T' ∧ 0 ≤ g'.at_) Item (by
      intro x hx A hA
      obtain ⟨g1, T1, rfl, ok1⟩ := hA
      obtain ⟨d, g2, d1, d2, ok2, e2⟩ := pick (ns := ns) (g := g1) (T := T1) (m := 90) (by omega) (by omega) ok1
      obtain ⟨i, _, rfl⟩ := List.mem_map.mp hx
      refine ⟨_, rfl, .tup [.str "lit", .int (5000 + d + 100 * (0 + (i : Int)))], hp ns g2 T1, ?_, ⟨g2, T1, rfl, ok2⟩, ⟨_, _, rfl⟩⟩
      simp [g__law_pick, e2, m1, z2]) (wPure (rangeA 0 8)).n 0 [] (hp ns g T) (by rfl) (by show 0 + (rangeA 0 8).length ≤ _; simp [rangeA]; omega) ⟨g, T, rfl, ok⟩ (by simp)
  have hi : iRange (aCons (eC (.int 8)) aNil) [some s, some (.ref 1), x2, some (.tup body), some (.tup l), x5, some (.int p), some (.int q), some (asAV o), x9, x10, x11, x12, x13, x14] (hp ns g T) = .ok (wPure (rangeA 0 8)) (hp ns g T) := iRangeN (n := 8) rfl (by omega)
  have e2 := lc_eq (vs := [14]) hi e
  have e1 : sh_law_1b_13 [some s, some (.ref 1), x2, some (.tup body), some (.tup l), x5, some (.int p), some (.int q), some (asAV o), x9, x10, x11, x12, x13, x14] (hp ns g T) = sh_law_1b_14 [some s, some (.ref 1), x2, some (.tup body), some (.tup l), x5, some (.int p), some (.int q), some (asAV o), x9, x10, x11, some (.ref (T1.length + 2)), x13, x14] (hp ns g1 (T1 ++ [.lst out])) := by
    simp only [sh_law_1b_13, sSeq_ap, sSet_ap, e2]
    rfl
  rw [e1]
  exact r14 F hl hli ok1 lst_end (by rw [hl8]; rfl) hP
theorem r12 {o1 : Option (List AV)} {b : Nat} (F : Fx body l p q o) (hl : l.length ≤ 20) (hli : ∀ a ∈ l, Item a) (ok : 0 ≤ g.at_) (h1 : ∀ l', o = some l' → ∃ l1, o1 = some l1 ∧ ∀ A, fn_after_steps [.tup body, .int b, .tup l1, .int q] A = .ok (asAV o) A) : Nx ns (sh_law_1b_12 [some s, some (.ref 1), x2, some (.tup body), some (.tup l), x5, some (.int p), some (.int q), some (asAV o), x9, some (.int b), some (asAV o1), x12, x13, x14] (hp ns g T)) := by
  have e1 : sh_law_1b_12 [some s, some (.ref 1), x2, some (.tup body), some (.tup l), x5, some (.int p), some (.int q), some (asAV o), x9, some (.int b), some (asAV o1), x12, x13, x14] (hp ns g T) = sh_law_1b_13 [some s, some (.ref 1), x2, some (.tup body), some (.tup l), x5, some (.int p), some (.int q), some (asAV o), x9, some (.int b), some (asAV o1), x12, x13, x14] (hp ns g T) := by
    cases o with
    | none => simp [sh_law_1b_12, asAV, isNonB]
    | some l' =>
      obtain ⟨l1, rfl, h2⟩ := h1 l' rfl
      have e2 := same_o (A := hp ns g T) F.it F.ln
      have e3 := h2 (hp ns g T)
      simp only [asAV] at e2 e3
      simp [sh_law_1b_12, asAV, isNonB, g_after_steps, g__law_same, e2, e3]
  rw [e1]
  exact r13 F hl hli ok
theorem r9 (F : Fy body l p q o) (hp1 : p < 1000) (hq1 : q < 1000) (hl : l.length ≤ 20) (hli : ∀ a ∈ l, Item a) (ok : 0 ≤ g.at_) : Nx ns (sh_law_1b_9 [some s, some (.ref 1), x2, some (.tup body), some (.tup l), x5, some (.int p), some (.int q), some (asAV o), x9, x10, x11, x12, x13, x14] (hp ns g T)) := by
  obtain ⟨mx, hm, hm1, hm2, hm3⟩ : ∃ mx : Int, (∀ A, bMax [.int 1, .int ((q : Int) - (p : Int) + 1)] A = .ok (.int mx) A) ∧ 0 < mx ∧ mx < 1000000 ∧ (∀ d : Int, 0 ≤ d → d < mx → (p + d.toNat ≤ q ∨ p + d.toNat = p)) := by
    by_cases h : (q : Int) - (p : Int) + 1 > 1
    · refine ⟨(q : Int) - (p : Int) + 1, fun A => ?_, by omega, by omega, fun d d1 d2 => by omega⟩
      show Res.ok (AV.int (if (q : Int) - (p : Int) + 1 > 1 then (q : Int) - (p : Int) + 1 else 1)) A = _
      rw [if_pos h]
    · refine ⟨1, fun A => ?_, by omega, by omega, fun d d1 d2 => by omega⟩
      show Res.ok (AV.int (if (q : Int) - (p : Int) + 1 > 1 then (q : Int) - (p : Int) + 1 else 1)) A = _
      rw [if_neg h]
  obtain ⟨d, g1, d1, d2, ok1, e1⟩ := pick (ns := ns) (g := g) (T := T) hm1 (by omega) ok
  obtain ⟨b, hb⟩ : ∃ b : Nat, b = p + d.toNat := ⟨_, rfl⟩
  have hb2 : (p : Int) + d = (b : Int) := by omega
  obtain ⟨o1, F1, h1⟩ := F.sp b (by omega) (by have := hm3 d d1 d2; omega)
  obtain ⟨T1, e2⟩ := F1.due ns g1 (T ++ [.lst l]) T.length lst_end
  have e3 := F1.as_ (hp ns g1 T)
  have e4 := same_o (A := hp ns g1 T1) F1.it F1.ln
  have e5 : sh_law_1b_9 [some s, some (.ref 1), x2, some (.tup body), some (.tup l), x5, some (.int p), some (.int q), some (asAV o), x9, x10, x11, x12, x13, x14] (hp ns g T) = sh_law_1b_12 [some s, some (.ref 1), x2, some (.tup body), some (.tup l), x5, some (.int p), some (.int q), some (asAV o), x9, some (.int b), some (asAV o1), x12, x13, x14] (hp ns g1 T1) := by
    simp [sh_law_1b_9, sh_law_1b_10, sh_law_1b_11, g__law_pick, g_after_steps, g__law_due, g__law_same, hm, e1, hb2, e3, list_tup, e2, e4]
  rw [e5]
  exact r12 F.fx hl hli ok1 h1
theorem r6 (F : Fy body l p q o) (hb : body.length ≤ 40) (hp1 : p < body.length) (hq1 : q < body.length) (hl : l.length ≤ 20) (hli : ∀ a ∈ l, Item a) (ok : 0 ≤ g.at_) : Nx ns (sh_law_1b_6 [some s, some (.ref 1), x2, some (.tup body), some (.tup l), x5, some (.int p), some (.int q), x8, x9, x10, x11, x12, x13, x14] (hp ns g T)) := by
  obtain ⟨T1, e1⟩ := F.fx.due ns g (T ++ [.lst l]) T.length lst_end
  have e2 := F.fx.as_ (hp ns g T1)
  have e3 := same_o (A := hp ns g T1) F.fx.it F.fx.ln
  have e4 : fn_after_steps [.tup body, .int q, .tup l, .int q] (hp ns g T1) = .ok (.tup l) (hp ns g T1) := after_steps_ok (o := some l) (Nat.le_refl _) (by omega) hb (by omega) (by rw [seg_nil]; exact .nil)
  have e5 : fn__law_same [.tup l, .tup l] (hp ns g T1) = .ok (.bl true) (hp ns g T1) := same_tup hli (by omega)
  have e6 : sh_law_1b_6 [some s, some (.ref 1), x2, some (.tup body), some (.tup l), x5, some (.int p), some (.int q), x8, x9, x10, x11, x12, x13, x14] (hp ns g T) = sh_law_1b_9 [some s, some (.ref 1), x2, some (.tup body), some (.tup l), x5, some (.int p), some (.int q), some (asAV o), some (asAV o), x10, x11, x12, x13, x14] (hp ns g T1) := by
    simp [sh_law_1b_6, sh_law_1b_7, sh_law_1b_8, g_after_steps, g__law_due, g__law_same, list_tup, e1, e2, e3, e4, e5]
  rw [e6]
  exact r9 F (by omega) (by omega) hl hli ok
theorem min2 {a b : Nat} {A : AH} {n : Nat} (e : A.lst? n = some [.int (a : Int), .int (b : Int)]) : ∃ c : Nat, (c = a ∨ c = b) ∧ bMin [.ref n] A = .ok (.int (c : Int)) A := by
  have h : bMin [.ref n] A = .ok (.int (if (b : Int) < (a : Int) then (b : Int) else (a : Int))) A := by
    simp only [bMin, sq_ref, e]
    rfl
  by_cases q : (b : Int) < (a : Int)
  · exact ⟨b, .inr rfl, by rw [h, if_pos q]⟩
  · exact ⟨a, .inl rfl, by rw [h, if_neg q]⟩
theorem max2 {a b : Nat} {A : AH} {n : Nat} (e : A.lst? n = some [.int (a : Int), .int (b : Int)]) : ∃ c : Nat, (c = a ∨ c = b) ∧ bMax [.ref n] A = .ok (.int (c : Int)) A := by
  have h : bMax [.ref n] A = .ok (.int (if (a : Int) < (b : Int) then (b : Int) else (a : Int))) A := by
    simp only [bMax, sq_ref, e]
    rfl
  by_cases q : (a : Int) < (b : Int)
  · exact ⟨b, .inr rfl, by rw [h, if_pos q]⟩
  · exact ⟨a, .inl rfl, by rw [h, if_neg q]⟩
theorem r5 {a b k : Nat} (hr : ∀ r ∈ body, Row r) (hb : body.length ≤ 40) (hp1 : p < body.length) (hq1 : q < body.length) (hl : l.length ≤ 20) (hli : ∀ a ∈ l, Item a) (ok : 0 ≤ g.at_) (e : AH.lst? T k = some [.int (a : Int), .int (b : Int)]) (ha : a < body.length) (hb1 : b < body.length) : Nx ns (sh_law_1b_5 [some s, some (.ref 1), x2, some (.tup body), some (.tup l), some (.ref (k + 2)), some (.int p), some (.int q), x8, x9, x10, x11, x12, x13, x14] (hp ns g T)) := by
  obtain ⟨d, g1, d1, d2, ok1, e1⟩ := pick (ns := ns) (g := g) (T := T) (m := 7) (by omega) (by omega) ok
  by_cases h0 : d = 0
  · obtain ⟨c, hc, e2⟩ := max2 (A := hp ns g1 T) (n := k + 2) e
    obtain ⟨c', hc', e3⟩ := min2 (A := hp ns g1 T) (n := k + 2) e
    obtain ⟨o, F⟩ := fy_ex (p := c) (q := c') hr hb (by omega) (by omega) hl hli
    have e4 : sh_law_1b_5 [some s, some (.ref 1), x2, some (.tup body), some (.tup l), some (.ref (k + 2)), some (.int p), some (.int q), x8, x9, x10, x11, x12, x13, x14] (hp ns g T) = sh_law_1b_6 [some s, some (.ref 1), x2, some (.tup body), some (.tup l), some (.ref (k + 2)), some (.int (c : Int)), some (.int (c' : Int)), x8, x9, x10, x11, x12, x13, x14] (hp ns g1 T) := by
      simp [sh_law_1b_5, g__law_pick, e1, h0, e2, e3]
    rw [e4]
    exact r6 F hb (by omega) (by omega) hl hli ok1
  · obtain ⟨o, F⟩ := fy_ex (p := p) (q := q) hr hb (by omega) (by omega) hl hli
    have e4 : sh_law_1b_5 [some s, some (.ref 1), x2, some (.tup body), some (.tup l), some (.ref (k + 2)), some (.int p), some (.int q), x8, x9, x10, x11, x12, x13, x14] (hp ns g T) = sh_law_1b_6 [some s, some (.ref 1), x2, some (.tup body), some (.tup l), some (.ref (k + 2)), some (.int p), some (.int q), x8, x9, x10, x11, x12, x13, x14] (hp ns g1 T) := by
      simp [sh_law_1b_5, g__law_pick, e1, h0]
    rw [e4]
    exact r6 F hb (by omega) (by omega) hl hli ok1
variable {x6 x7 : Option AV}
theorem r2 (hr : ∀ r ∈ body, Row r) (hb : body.length ≤ 40) (hb0 : 0 < body.length) (hl : l.length ≤ 20) (hli : ∀ a ∈ l, Item a) (ok : 0 ≤ g.at_) : Nx ns (sh_law_1b_2 [some s, some (.ref 1), x2, some (.tup body), some (.tup l), x5, x6, x7, x8, x9, x10, x11, x12, x13, x14] (hp ns g T)) := by
  have z2 : 2 ≤ sizeLine := by decide
  obtain ⟨a, g1, a1, a2, ok1, e1⟩ := pick (ns := ns) (g := g) (T := T) (m := body.length) (by omega) (by omega) ok
  obtain ⟨b, g2, b1, b2, ok2, e2⟩ := pick (ns := ns) (g := g1) (T := T) (m := body.length) (by omega) (by omega) ok1
  obtain ⟨a', rfl⟩ : ∃ n : Nat, a = n := ⟨a.toNat, by omega⟩
  obtain ⟨b', rfl⟩ : ∃ n : Nat, b = n := ⟨b.toNat, by omega⟩
  obtain ⟨c, hc, e3⟩ := min2 (A := hp ns g2 (T ++ [.lst [.int (a' : Int), .int (b' : Int)]])) (n := T.length + 2) lst_end
  obtain ⟨d, g3, d1, d2, ok3, e4⟩ := pick (ns := ns) (g := g2) (T := T ++ [.lst [.int (a' : Int), .int (b' : Int)]]) (m := 2) (by omega) (by omega) ok2
  by_cases h0 : d = 0
  · obtain ⟨f, g4, f1, f2, ok4, e5⟩ := pick (ns := ns) (g := g3) (T := T ++ [.lst [.int (a' : Int), .int (b' : Int)]]) (m := 6) (by omega) (by omega) ok3
    obtain ⟨q', hq, hq2⟩ : ∃ q' : Nat, (if (c : Int) + f < (body.length : Int) - 1 then (c : Int) + f else (body.length : Int) - 1) = (q' : Int) ∧ q' < body.length := by
      split
      · exact ⟨c + f.toNat, by omega, by omega⟩
      · exact ⟨body.length - 1, by omega, by omega⟩
    have e6 : ∀ A, bMin [.int ((body.length : Int) - 1), .int ((c : Int) + f)] A = .ok (.int (q' : Int)) A := by
      intro A
      show Res.ok (AV.int (if (c : Int) + f < (body.length : Int) - 1 then (c : Int) + f else (body.length : Int) - 1)) A = _
      rw [hq]
    have e7 : sh_law_1b_2 [some s, some (.ref 1), x2, some (.tup body), some (.tup l), x5, x6, x7, x8, x9, x10, x11, x12, x13, x14] (hp ns g T) = sh_law_1b_5 [some s, some (.ref 1), x2, some (.tup body), some (.tup l), some (.ref (T.length + 2)), some (.int (c : Int)), some (.int (q' : Int)), x8, x9, x10, x11, x12, x13, x14] (hp ns g4 (T ++ [.lst [.int (a' : Int), .int (b' : Int)]])) := by
      simp [sh_law_1b_2, sh_law_1b_3, sh_law_1b_4, g__law_pick, e1, e2, z2, e3, e4, h0, e5, e6]
    rw [e7]
    exact r5 hr hb (by omega) (by omega) hl hli ok4 lst_end (by omega) (by omega)
  · obtain ⟨c', hc', e5⟩ := max2 (A := hp ns g3 (T ++ [.lst [.int (a' : Int), .int (b' : Int)]])) (n := T.length + 2) lst_end
    have e7 : sh_law_1b_2 [some s, some (.ref 1), x2, some (.tup body), some (.tup l), x5, x6, x7, x8, x9, x10, x11, x12, x13, x14] (hp ns g T) = sh_law_1b_5 [some s, some (.ref 1), x2, some (.tup body), some (.tup l), some (.ref (T.length + 2)), some (.int (c : Int)), some (.int (c' : Int)), x8, x9, x10, x11, x12, x13, x14] (hp ns g3 (T ++ [.lst [.int (a' : Int), .int (b' : Int)]])) := by
      simp [sh_law_1b_2, sh_law_1b_3, sh_law_1b_4, g__law_pick, e1, e2, z2, e3, e4, h0, e5]
    rw [e7]
    exact r5 hr hb (by omega) (by omega) hl hli ok3 lst_end (by omega) (by omega)
variable {x3 x4 : Option AV}
theorem r1 (hr : ∀ r ∈ body, Row r) (hb : body.length ≤ 40) (hb0 : 0 < body.length) (ok : 0 ≤ g.at_) : Nx ns (sh_law_1b_1 [some s, some (.ref 1), x2, some (.tup body), x4, x5, x6, x7, x8, x9, x10, x11, x12, x13, x14] (hp ns g T)) := by
  have z7 : 7 ≤ sizeLine := by decide
  have z4 : 40 < sizeLine := by decide
  obtain ⟨v, g1, hv, ok1, e1⟩ := choice (ns := ns) (g := g) (k := T.length) (T := T ++ [.lst [.int 0, .int 1, .int 2, .int 3, .int 4, .int 5, .int 12]]) lst_end (by simp) (by simp) ok
  obtain ⟨n, hn, rfl⟩ : ∃ n : Nat, n ≤ 12 ∧ v = .int (n : Int) := by
    simp only [List.mem_cons, List.not_mem_nil, or_false] at hv
    rcases hv with rfl | rfl | rfl | rfl | rfl | rfl | rfl
    · exact ⟨0, by omega, rfl⟩
    · exact ⟨1, by omega, rfl⟩
    · exact ⟨2, by omega, rfl⟩
    · exact ⟨3, by omega, rfl⟩
    · exact ⟨4, by omega, rfl⟩
    · exact ⟨5, by omega, rfl⟩
    · exact ⟨12, by omega, rfl⟩
  have hlr : (rangeA 0 n).length = n := by simp [rangeA]
  obtain ⟨out, A', e, ⟨g2, T2, rfl, ok2⟩, hP, hlo⟩ := lc_inv (tg := gNm 14) (elt := eCall g__law_source (aCons (eVar 1) aNil)) (xs := rangeA 0 n) (ℓ0 := [some s, some (.ref 1), x2, some (.tup body), x4, x5, x6, x7, x8, x9, x10, x11, x12, x13, none])
    (fun A => ∃ g' T', A = hp ns g' T' ∧ 0 ≤ g'.at_) Item (by
      intro x hx A hA
      obtain ⟨g1, T1, rfl, ok1⟩ := hA
      obtain ⟨v, g2, T2, e2, hv, ok2⟩ := source (ns := ns) (g := g1) (T := T1) ok1
      refine ⟨_, rfl, v, hp ns g2 T2, ?_, ⟨g2, T2, rfl, ok2⟩, hv⟩
      simp [g__law_source, e2]) (wPure (rangeA 0 n)).n 0 [] (hp ns g1 (T ++ [.lst [.int 0, .int 1, .int 2, .int 3, .int 4, .int 5, .int 12]])) (by show 0 + (rangeA 0 n).length = _; omega) (by show 0 + (rangeA 0 n).length ≤ _; omega) ⟨_, _, rfl, ok1⟩ (by simp)
  have hlo2 : out.length = n := by rw [hlo]; show 0 + (rangeA 0 n).length = _; omega
  have hi : iRange (aCons (eCall g__law_choice (aCons (eVar 1) (aCons (eLst (aCons (eC (.int 0)) (aCons (eC (.int 1)) (aCons (eC (.int 2)) (aCons (eC (.int 3)) (aCons (eC (.int 4)) (aCons (eC (.int 5)) (aCons (eC (.int 12)) aNil)))))))) aNil))) aNil) [some s, some (.ref 1), x2, some (.tup body), x4, x5, x6, x7, x8, x9, x10, x11, x12, x13, x14] (hp ns g T) = .ok (wPure (rangeA 0 n)) (hp ns g1 (T ++ [.lst [.int 0, .int 1, .int 2, .int 3, .int 4, .int 5, .int 12]])) := iRangeN (by simp [g__law_choice, z7, e1]) (by omega)
  have e2 := lc_eq (vs := [14]) hi e
  have e3 := tuple_lst (A := hp ns g2 (T2 ++ [.lst out])) (n := T2.length + 2) lst_end
  have e7 : sh_law_1b_1 [some s, some (.ref 1), x2, some (.tup body), x4, x5, x6, x7, x8, x9, x10, x11, x12, x13, x14] (hp ns g T) = sh_law_1b_2 [some s, some (.ref 1), x2, some (.tup body), some (.tup out), x5, x6, x7, x8, x9, x10, x11, x12, x13, x14] (hp ns g2 (T2 ++ [.lst out])) := by
    simp only [sh_law_1b_1, sSeq_ap, sSet_ap, eCB_ap, aCons_ap, aNil_ap, e2, bind_ok, hp_len, hp_app, e3, toS_ok]
    rfl
  rw [e7]
  exact r2 hr hb hb0 (by omega) hP ok2
theorem r0 (ok : 0 ≤ g.at_) : Nx ns (sh_law_1b_0 [some s, some (.ref 1), x2, x3, x4, x5, x6, x7, x8, x9, x10, x11, x12, x13, x14] (hp ns g T)) := by
  obtain ⟨rows, g1, T1, e1, hr, h0, h1, ok1⟩ := body_ok (ns := ns) (g := g) (T := T) ok
  have e7 : sh_law_1b_0 [some s, some (.ref 1), x2, x3, x4, x5, x6, x7, x8, x9, x10, x11, x12, x13, x14] (hp ns g T) = sh_law_1b_1 [some s, some (.ref 1), x2, some (.tup rows), x4, x5, x6, x7, x8, x9, x10, x11, x12, x13, x14] (hp ns g1 T1) := by
    simp [sh_law_1b_0, g__law_body, e1]
  rw [e7]
  exact r1 hr h1 h0 ok1
end
theorem len13 {α : Type} {r : List α} (h : r.length = 13) : ∃ a b c d e f g h i j k l m, r = [a, b, c, d, e, f, g, h, i, j, k, l, m] := by
  match r, h with
  | [a, b, c, d, e, f, g, h, i, j, k, l, m], _ => exact ⟨a, b, c, d, e, f, g, h, i, j, k, l, m, rfl⟩
theorem rounds {ns : List Int} {xs : List AV} : ∀ (m i : Nat) (s : AV) (rest : LSt) (g : Bg) (T : AH), i + m = xs.length → rest.length = 13 → 0 ≤ g.at_ → Nx ns (forLoop (wPure xs) (gNm 2) sh_law_1b_0 m i (some s :: some (.ref 1) :: rest) (hp ns g T))
  | 0, i, s, rest, g, T, hi, hr, ok => ⟨g, T, s, rest, hr, rfl, ok⟩
  | m + 1, i, s, rest, g, T, hi, hr, ok => by
    obtain ⟨x2, x3, x4, x5, x6, x7, x8, x9, x10, x11, x12, x13, x14, rfl⟩ := len13 hr
    obtain ⟨g1, T1, s1, rest1, h1, e1, ok1⟩ := r0 (ns := ns) (g := g) (T := T) (s := s) (x2 := some (xs[i]'(by omega))) (x3 := x3) (x4 := x4) (x5 := x5) (x6 := x6) (x7 := x7) (x8 := x8) (x9 := x9) (x10 := x10) (x11 := x11) (x12 := x12) (x13 := x13) (x14 := x14) ok
    have e0 : (wPure xs).get i (hp ns g T) = some (xs[i]'(by omega)) := List.getElem?_eq_getElem (by omega)
    have ih := rounds (ns := ns) (xs := xs) m (i + 1) s1 rest1 g1 T1 (by omega) h1 ok1
    unfold forLoop
    rw [e0]
    simp only [gNm_ap, List.set]
    rw [e1]
    exact ih
theorem law_true (ns : List Int) (h : ns.length ≤ 63) : ∃ A', fn_law [.fl (ns.map AV.int)] [] = .ok (.bl true) A' := by
  have e1 := bag ns h
  obtain ⟨g1, T1, s1, rest1, h1, e2, ok1⟩ := rounds (ns := ns) (xs := rangeA 0 3) (wPure (rangeA 0 3)).n 0 (.fl (ns.map AV.int)) [none, none, none, none, none, none, none, none, none, none, none, none, none] ⟨0, 0, 20011, 0⟩ [] rfl rfl (Int.le_refl 0)
  have hi : iRange (aCons (eC (.int 3)) aNil) [some (.fl (ns.map AV.int)), some (.ref 1), none, none, none, none, none, none, none, none, none, none, none, none, none] (hp ns ⟨0, 0, 20011, 0⟩ []) = .ok (wPure (rangeA 0 3)) (hp ns ⟨0, 0, 20011, 0⟩ []) := iRangeN (n := 3) rfl (by omega)
  have hF := for_eq (tg := gNm 2) (body := sh_law_1b_0) hi
  rw [e2] at hF
  refine ⟨hp ns g1 T1, ?_⟩
  simp [fn_law, runFn, sh_law, sh_law_0, sh_law_1, sh_law_2, g__law_bag, e1, hF]
end K45

set_option Elab.async false
set_option linter.all false
set_option maxRecDepth 100000
set_option maxHeartbeats 4000000
namespace K45
open PySem L2 PyProof.Rows Sh
def top (i : Nat) : Stmt := PySem.Challenge.pw_wordmint_k45_layout_steps.main.body.getD i (.Pass ⟨0, 0, 0, 0⟩)
def f_0 : List (Str × GF) := []
def f_1 : List (Str × GF) := ("_law_integer", ⟨fn__law_integer, 1, []⟩) :: f_0
def f_2 : List (Str × GF) := ("_law_same", ⟨fn__law_same, 2, []⟩) :: f_1
def f_3 : List (Str × GF) := ("layout_step", ⟨fn_layout_step, 2, []⟩) :: f_2
def f_4 : List (Str × GF) := ("after_steps", ⟨fn_after_steps, 4, []⟩) :: f_3
def f_5 : List (Str × GF) := ("_law_items", ⟨fn__law_items, 2, []⟩) :: f_4
def f_6 : List (Str × GF) := ("_law_pick", ⟨fn__law_pick, 2, []⟩) :: f_5
def f_7 : List (Str × GF) := ("_law_moved", ⟨fn__law_moved, 2, []⟩) :: f_6
def f_8 : List (Str × GF) := ("_law_due", ⟨fn__law_due, 4, []⟩) :: f_7
def f_9 : List (Str × GF) := ("_law_choice", ⟨fn__law_choice, 2, []⟩) :: f_8
def f_10 : List (Str × GF) := ("_law_source", ⟨fn__law_source, 1, []⟩) :: f_9
def f_11 : List (Str × GF) := ("_law_instruction", ⟨fn__law_instruction, 3, []⟩) :: f_10
def f_12 : List (Str × GF) := ("_law_body", ⟨fn__law_body, 1, []⟩) :: f_11
def f_13 : List (Str × GF) := ("_law_bag", ⟨fn__law_bag, 1, []⟩) :: f_12
def d__law_integer : He.DefD := ⟨("_law_integer", none), "_law_integer", "_law_integer", defArgs (top 9), defBody (top 9), defScope (top 9), [], []⟩
theorem sc__law_integer : FnScope ["_law_thing"] ["_law_thing"] (defScope (top 9)) := ⟨by rfl, by rfl, by rfl, by decide +kernel, by rfl, by decide +kernel, by decide +kernel⟩
set_option maxHeartbeats 0 in
theorem cp__law_integer : compSs 60 (cpOf ["_law_thing"] (defScope (top 9)) 0 f_0 cons) (defBody (top 9)) = some sh__law_integer := by kernel_rfl
def d__law_same : He.DefD := ⟨("_law_same", none), "_law_same", "_law_same", defArgs (top 15), defBody (top 15), defScope (top 15), [], []⟩
theorem sc__law_same : FnScope ["_law_told", "_law_due_here", "_law_k"] ["_law_told", "_law_due_here"] (defScope (top 15)) := ⟨by rfl, by rfl, by rfl, by decide +kernel, by rfl, by decide +kernel, by decide +kernel⟩
set_option maxHeartbeats 0 in
theorem cp__law_same : compSs 60 (cpOf ["_law_told", "_law_due_here", "_law_k"] (defScope (top 15)) 1 f_1 cons) (defBody (top 15)) = some sh__law_same := by kernel_rfl
def d_layout_step : He.DefD := ⟨("layout_step", none), "layout_step", "layout_step", defArgs (top 3), defBody (top 3), defScope (top 3), [], []⟩
theorem sc_layout_step : FnScope ["row", "layout", "op"] ["row", "layout"] (defScope (top 3)) := ⟨by rfl, by rfl, by rfl, by decide +kernel, by rfl, by decide +kernel, by decide +kernel⟩
set_option maxHeartbeats 0 in
theorem cp_layout_step : compSs 60 (cpOf ["row", "layout", "op"] (defScope (top 3)) 2 f_2 cons) (defBody (top 3)) = some sh_layout_step := by kernel_rfl
def d_after_steps : He.DefD := ⟨("after_steps", none), "after_steps", "after_steps", defArgs (top 4), defBody (top 4), defScope (top 4), [], []⟩
theorem sc_after_steps : FnScope ["body", "place", "layout", "goal"] ["body", "place", "layout", "goal"] (defScope (top 4)) := ⟨by rfl, by rfl, by rfl, by decide +kernel, by rfl, by decide +kernel, by decide +kernel⟩
set_option maxHeartbeats 0 in
theorem cp_after_steps : compSs 60 (cpOf ["body", "place", "layout", "goal"] (defScope (top 4)) 3 f_3 cons) (defBody (top 4)) = some sh_after_steps := by kernel_rfl
def d__law_items : He.DefD := ⟨("_law_items", none), "_law_items", "_law_items", defArgs (top 16), defBody (top 16), defScope (top 16), [], []⟩
theorem sc__law_items : FnScope ["_law_layout", "_law_items_here", "_law_one"] ["_law_layout", "_law_items_here"] (defScope (top 16)) := ⟨by rfl, by rfl, by rfl, by decide +kernel, by rfl, by decide +kernel, by decide +kernel⟩
set_option maxHeartbeats 0 in
theorem cp__law_items : compSs 60 (cpOf ["_law_layout", "_law_items_here", "_law_one"] (defScope (top 16)) 4 f_4 cons) (defBody (top 16)) = some sh__law_items := by kernel_rfl
def d__law_pick : He.DefD := ⟨("_law_pick", none), "_law_pick", "_law_pick", defArgs (top 7), defBody (top 7), defScope (top 7), [], []⟩
theorem sc__law_pick : FnScope ["_law_bag_here", "_law_many", "_law_mixed", "_law_digit", "_law_cell"] ["_law_bag_here", "_law_many"] (defScope (top 7)) := ⟨by rfl, by rfl, by rfl, by decide +kernel, by rfl, by decide +kernel, by decide +kernel⟩
set_option maxHeartbeats 0 in
theorem cp__law_pick : compSs 60 (cpOf ["_law_bag_here", "_law_many", "_law_mixed", "_law_digit", "_law_cell"] (defScope (top 7)) 5 f_5 cons) (defBody (top 7)) = some sh__law_pick := by kernel_rfl
def d__law_moved : He.DefD := ⟨("_law_moved", none), "_law_moved", "_law_moved", defArgs (top 13), defBody (top 13), defScope (top 13), [], []⟩
theorem sc__law_moved : FnScope ["_law_row", "_law_pile", "_law_op", "_law_item"] ["_law_row", "_law_pile"] (defScope (top 13)) := ⟨by rfl, by rfl, by rfl, by decide +kernel, by rfl, by decide +kernel, by decide +kernel⟩
set_option maxHeartbeats 0 in
theorem cp__law_moved : compSs 60 (cpOf ["_law_row", "_law_pile", "_law_op", "_law_item"] (defScope (top 13)) 6 f_6 cons) (defBody (top 13)) = some sh__law_moved := by kernel_rfl
def d__law_due : He.DefD := ⟨("_law_due", none), "_law_due", "_law_due", defArgs (top 14), defBody (top 14), defScope (top 14), [], []⟩
theorem sc__law_due : FnScope ["_law_body_here", "_law_place", "_law_pile", "_law_goal", "_law_k"] ["_law_body_here", "_law_place", "_law_pile", "_law_goal"] (defScope (top 14)) := ⟨by rfl, by rfl, by rfl, by decide +kernel, by rfl, by decide +kernel, by decide +kernel⟩
set_option maxHeartbeats 0 in
theorem cp__law_due : compSs 60 (cpOf ["_law_body_here", "_law_place", "_law_pile", "_law_goal", "_law_k"] (defScope (top 14)) 7 f_7 cons) (defBody (top 14)) = some sh__law_due := by kernel_rfl
def d__law_choice : He.DefD := ⟨("_law_choice", none), "_law_choice", "_law_choice", defArgs (top 8), defBody (top 8), defScope (top 8), [], []⟩
theorem sc__law_choice : FnScope ["_law_bag_here", "_law_things"] ["_law_bag_here", "_law_things"] (defScope (top 8)) := ⟨by rfl, by rfl, by rfl, by decide +kernel, by rfl, by decide +kernel, by decide +kernel⟩
set_option maxHeartbeats 0 in
theorem cp__law_choice : compSs 60 (cpOf ["_law_bag_here", "_law_things"] (defScope (top 8)) 8 f_8 cons) (defBody (top 8)) = some sh__law_choice := by kernel_rfl
def d__law_source : He.DefD := ⟨("_law_source", none), "_law_source", "_law_source", defArgs (top 10), defBody (top 10), defScope (top 10), [], []⟩
theorem sc__law_source : FnScope ["_law_bag_here", "_law_kind"] ["_law_bag_here"] (defScope (top 10)) := ⟨by rfl, by rfl, by rfl, by decide +kernel, by rfl, by decide +kernel, by decide +kernel⟩
set_option maxHeartbeats 0 in
theorem cp__law_source : compSs 60 (cpOf ["_law_bag_here", "_law_kind"] (defScope (top 10)) 9 f_9 cons) (defBody (top 10)) = some sh__law_source := by kernel_rfl
def d__law_instruction : He.DefD := ⟨("_law_instruction", none), "_law_instruction", "_law_instruction", defArgs (top 11), defBody (top 11), defScope (top 11), [], []⟩
theorem sc__law_instruction : FnScope ["_law_bag_here", "_law_many", "_law_rate", "_law_kind"] ["_law_bag_here", "_law_many", "_law_rate"] (defScope (top 11)) := ⟨by rfl, by rfl, by rfl, by decide +kernel, by rfl, by decide +kernel, by decide +kernel⟩
set_option maxHeartbeats 0 in
theorem cp__law_instruction : compSs 60 (cpOf ["_law_bag_here", "_law_many", "_law_rate", "_law_kind"] (defScope (top 11)) 10 f_10 cons) (defBody (top 11)) = some sh__law_instruction := by kernel_rfl
def d__law_body : He.DefD := ⟨("_law_body", none), "_law_body", "_law_body", defArgs (top 12), defBody (top 12), defScope (top 12), [], []⟩
theorem sc__law_body : FnScope ["_law_bag_here", "_law_many", "_law_rate", "_law_rows", "_law_k"] ["_law_bag_here"] (defScope (top 12)) := ⟨by rfl, by rfl, by rfl, by decide +kernel, by rfl, by decide +kernel, by decide +kernel⟩
set_option maxHeartbeats 0 in
theorem cp__law_body : compSs 60 (cpOf ["_law_bag_here", "_law_many", "_law_rate", "_law_rows", "_law_k"] (defScope (top 12)) 11 f_11 cons) (defBody (top 12)) = some sh__law_body := by kernel_rfl
def d__law_bag : He.DefD := ⟨("_law_bag", none), "_law_bag", "_law_bag", defArgs (top 6), defBody (top 6), defScope (top 6), [], []⟩
theorem sc__law_bag : FnScope ["_law_script", "_law_cell"] ["_law_script"] (defScope (top 6)) := ⟨by rfl, by rfl, by rfl, by decide +kernel, by rfl, by decide +kernel, by decide +kernel⟩
set_option maxHeartbeats 0 in
theorem cp__law_bag : compSs 60 (cpOf ["_law_script", "_law_cell"] (defScope (top 6)) 12 f_12 cons) (defBody (top 6)) = some sh__law_bag := by kernel_rfl
def d_law : He.DefD := ⟨("law", none), "law", "law", defArgs (top 17), defBody (top 17), defScope (top 17), [], []⟩
theorem sc_law : FnScope ["_law_script", "_law_bag_here", "_law_k", "_law_body_here", "_law_layout", "_law_ends", "_law_place", "_law_goal", "_law_due_here", "_law_told", "_law_between", "_law_first", "_law_items_here", "_law_lent", "_law_n"] ["_law_script"] (defScope (top 17)) := ⟨by rfl, by rfl, by rfl, by decide +kernel, by rfl, by decide +kernel, by decide +kernel⟩
set_option maxHeartbeats 0 in
theorem cp_law : compSs 60 (cpOf ["_law_script", "_law_bag_here", "_law_k", "_law_body_here", "_law_layout", "_law_ends", "_law_place", "_law_goal", "_law_due_here", "_law_told", "_law_between", "_law_first", "_law_items_here", "_law_lent", "_law_n"] (defScope (top 17)) 13 f_13 cons) (defBody (top 17)) = some sh_law := by kernel_rfl
def fn : List He.DefD := [d__law_integer, d__law_same, d_layout_step, d_after_steps, d__law_items, d__law_pick, d__law_moved, d__law_due, d__law_choice, d__law_source, d__law_instruction, d__law_body, d__law_bag, d_law]
section
variable {P : Program} {w : World} {K : PySem.W.Frag} {h : Heap} {mg : Str → Option Value} {base : Heap}
theorem tb_0 (c : SaysS cons fn ts w K) (X : K.In h) (G : h.Ns mainGlobals mg) : TabOk (rcOf K w cons) P mg base 0 f_0 cons := tab0 c X G (by decide +kernel) 0
theorem ok_0 (c : SaysS cons fn ts w K) (X : K.In h) (G : h.Ns mainGlobals mg) : ∃ fd, FunD K "_law_integer" "_law_integer" (defArgs (top 9)) (defBody (top 9)) (defScope (top 9)) [] [] (He.fAd K ("_law_integer", none)) fd ∧ FnOk P w K mg base (L2.CX P w) 1 (He.fAd K ("_law_integer", none)) fd ["_law_thing"] (SpOf (rcOf K w cons) fn__law_integer 1) := by
  obtain ⟨fd, F⟩ := c.def_ 0 (d := d__law_integer)
  exact ⟨fd, F, fnD_ok (R := rcOf K w cons) (tb_0 c X G) F sc__law_integer cp__law_integer⟩
theorem tb_1 (c : SaysS cons fn ts w K) (X : K.In h) (G : h.Ns mainGlobals mg) : TabOk (rcOf K w cons) P mg base 1 f_1 cons := by
  obtain ⟨fd, F, ok⟩ := ok_0 (P := P) (base := base) c X G
  exact TabOk.add ((tb_0 c X G).up (Nat.le_succ 0)) (c.glo X G 0 (d := d__law_integer)) F.kp ok (F.bindsN fun _ _ _ _ _ _ us hl => match us, hl with | [_], _ => rfl)
theorem ok_1 (c : SaysS cons fn ts w K) (X : K.In h) (G : h.Ns mainGlobals mg) : ∃ fd, FunD K "_law_same" "_law_same" (defArgs (top 15)) (defBody (top 15)) (defScope (top 15)) [] [] (He.fAd K ("_law_same", none)) fd ∧ FnOk P w K mg base (L2.CX P w) 2 (He.fAd K ("_law_same", none)) fd ["_law_told", "_law_due_here"] (SpOf (rcOf K w cons) fn__law_same 2) := by
  obtain ⟨fd, F⟩ := c.def_ 1 (d := d__law_same)
  exact ⟨fd, F, fnD_ok (R := rcOf K w cons) (tb_1 c X G) F sc__law_same cp__law_same⟩
theorem tb_2 (c : SaysS cons fn ts w K) (X : K.In h) (G : h.Ns mainGlobals mg) : TabOk (rcOf K w cons) P mg base 2 f_2 cons := by
  obtain ⟨fd, F, ok⟩ := ok_1 (P := P) (base := base) c X G
  exact TabOk.add ((tb_1 c X G).up (Nat.le_succ 1)) (c.glo X G 1 (d := d__law_same)) F.kp ok (F.bindsN fun _ _ _ _ _ _ us hl => match us, hl with | [_, _], _ => rfl)
theorem ok_2 (c : SaysS cons fn ts w K) (X : K.In h) (G : h.Ns mainGlobals mg) : ∃ fd, FunD K "layout_step" "layout_step" (defArgs (top 3)) (defBody (top 3)) (defScope (top 3)) [] [] (He.fAd K ("layout_step", none)) fd ∧ FnOk P w K mg base (L2.CX P w) 3 (He.fAd K ("layout_step", none)) fd ["row", "layout"] (SpOf (rcOf K w cons) fn_layout_step 2) := by
  obtain ⟨fd, F⟩ := c.def_ 2 (d := d_layout_step)
  exact ⟨fd, F, fnD_ok (R := rcOf K w cons) (tb_2 c X G) F sc_layout_step cp_layout_step⟩
theorem tb_3 (c : SaysS cons fn ts w K) (X : K.In h) (G : h.Ns mainGlobals mg) : TabOk (rcOf K w cons) P mg base 3 f_3 cons := by
  obtain ⟨fd, F, ok⟩ := ok_2 (P := P) (base := base) c X G
  exact TabOk.add ((tb_2 c X G).up (Nat.le_succ 2)) (c.glo X G 2 (d := d_layout_step)) F.kp ok (F.bindsN fun _ _ _ _ _ _ us hl => match us, hl with | [_, _], _ => rfl)
theorem ok_3 (c : SaysS cons fn ts w K) (X : K.In h) (G : h.Ns mainGlobals mg) : ∃ fd, FunD K "after_steps" "after_steps" (defArgs (top 4)) (defBody (top 4)) (defScope (top 4)) [] [] (He.fAd K ("after_steps", none)) fd ∧ FnOk P w K mg base (L2.CX P w) 4 (He.fAd K ("after_steps", none)) fd ["body", "place", "layout", "goal"] (SpOf (rcOf K w cons) fn_after_steps 4) := by
  obtain ⟨fd, F⟩ := c.def_ 3 (d := d_after_steps)
  exact ⟨fd, F, fnD_ok (R := rcOf K w cons) (tb_3 c X G) F sc_after_steps cp_after_steps⟩
theorem tb_4 (c : SaysS cons fn ts w K) (X : K.In h) (G : h.Ns mainGlobals mg) : TabOk (rcOf K w cons) P mg base 4 f_4 cons := by
  obtain ⟨fd, F, ok⟩ := ok_3 (P := P) (base := base) c X G
  exact TabOk.add ((tb_3 c X G).up (Nat.le_succ 3)) (c.glo X G 3 (d := d_after_steps)) F.kp ok (F.bindsN fun _ _ _ _ _ _ us hl => match us, hl with | [_, _, _, _], _ => rfl)
theorem ok_4 (c : SaysS cons fn ts w K) (X : K.In h) (G : h.Ns mainGlobals mg) : ∃ fd, FunD K "_law_items" "_law_items" (defArgs (top 16)) (defBody (top 16)) (defScope (top 16)) [] [] (He.fAd K ("_law_items", none)) fd ∧ FnOk P w K mg base (L2.CX P w) 5 (He.fAd K ("_law_items", none)) fd ["_law_layout", "_law_items_here"] (SpOf (rcOf K w cons) fn__law_items 2) := by
  obtain ⟨fd, F⟩ := c.def_ 4 (d := d__law_items)
  exact ⟨fd, F, fnD_ok (R := rcOf K w cons) (tb_4 c X G) F sc__law_items cp__law_items⟩
theorem tb_5 (c : SaysS cons fn ts w K) (X : K.In h) (G : h.Ns mainGlobals mg) : TabOk (rcOf K w cons) P mg base 5 f_5 cons := by
  obtain ⟨fd, F, ok⟩ := ok_4 (P := P) (base := base) c X G
  exact TabOk.add ((tb_4 c X G).up (Nat.le_succ 4)) (c.glo X G 4 (d := d__law_items)) F.kp ok (F.bindsN fun _ _ _ _ _ _ us hl => match us, hl with | [_, _], _ => rfl)
theorem ok_5 (c : SaysS cons fn ts w K) (X : K.In h) (G : h.Ns mainGlobals mg) : ∃ fd, FunD K "_law_pick" "_law_pick" (defArgs (top 7)) (defBody (top 7)) (defScope (top 7)) [] [] (He.fAd K ("_law_pick", none)) fd ∧ FnOk P w K mg base (L2.CX P w) 6 (He.fAd K ("_law_pick", none)) fd ["_law_bag_here", "_law_many"] (SpOf (rcOf K w cons) fn__law_pick 2) := by
  obtain ⟨fd, F⟩ := c.def_ 5 (d := d__law_pick)
  exact ⟨fd, F, fnD_ok (R := rcOf K w cons) (tb_5 c X G) F sc__law_pick cp__law_pick⟩
theorem tb_6 (c : SaysS cons fn ts w K) (X : K.In h) (G : h.Ns mainGlobals mg) : TabOk (rcOf K w cons) P mg base 6 f_6 cons := by
  obtain ⟨fd, F, ok⟩ := ok_5 (P := P) (base := base) c X G
  exact TabOk.add ((tb_5 c X G).up (Nat.le_succ 5)) (c.glo X G 5 (d := d__law_pick)) F.kp ok (F.bindsN fun _ _ _ _ _ _ us hl => match us, hl with | [_, _], _ => rfl)
theorem ok_6 (c : SaysS cons fn ts w K) (X : K.In h) (G : h.Ns mainGlobals mg) : ∃ fd, FunD K "_law_moved" "_law_moved" (defArgs (top 13)) (defBody (top 13)) (defScope (top 13)) [] [] (He.fAd K ("_law_moved", none)) fd ∧ FnOk P w K mg base (L2.CX P w) 7 (He.fAd K ("_law_moved", none)) fd ["_law_row", "_law_pile"] (SpOf (rcOf K w cons) fn__law_moved 2) := by
  obtain ⟨fd, F⟩ := c.def_ 6 (d := d__law_moved)
  exact ⟨fd, F, fnD_ok (R := rcOf K w cons) (tb_6 c X G) F sc__law_moved cp__law_moved⟩
theorem tb_7 (c : SaysS cons fn ts w K) (X : K.In h) (G : h.Ns mainGlobals mg) : TabOk (rcOf K w cons) P mg base 7 f_7 cons := by
  obtain ⟨fd, F, ok⟩ := ok_6 (P := P) (base := base) c X G
  exact TabOk.add ((tb_6 c X G).up (Nat.le_succ 6)) (c.glo X G 6 (d := d__law_moved)) F.kp ok (F.bindsN fun _ _ _ _ _ _ us hl => match us, hl with | [_, _], _ => rfl)
theorem ok_7 (c : SaysS cons fn ts w K) (X : K.In h) (G : h.Ns mainGlobals mg) : ∃ fd, FunD K "_law_due" "_law_due" (defArgs (top 14)) (defBody (top 14)) (defScope (top 14)) [] [] (He.fAd K ("_law_due", none)) fd ∧ FnOk P w K mg base (L2.CX P w) 8 (He.fAd K ("_law_due", none)) fd ["_law_body_here", "_law_place", "_law_pile", "_law_goal"] (SpOf (rcOf K w cons) fn__law_due 4) := by
  obtain ⟨fd, F⟩ := c.def_ 7 (d := d__law_due)
  exact ⟨fd, F, fnD_ok (R := rcOf K w cons) (tb_7 c X G) F sc__law_due cp__law_due⟩
theorem tb_8 (c : SaysS cons fn ts w K) (X : K.In h) (G : h.Ns mainGlobals mg) : TabOk (rcOf K w cons) P mg base 8 f_8 cons := by
  obtain ⟨fd, F, ok⟩ := ok_7 (P := P) (base := base) c X G
  exact TabOk.add ((tb_7 c X G).up (Nat.le_succ 7)) (c.glo X G 7 (d := d__law_due)) F.kp ok (F.bindsN fun _ _ _ _ _ _ us hl => match us, hl with | [_, _, _, _], _ => rfl)
theorem ok_8 (c : SaysS cons fn ts w K) (X : K.In h) (G : h.Ns mainGlobals mg) : ∃ fd, FunD K "_law_choice" "_law_choice" (defArgs (top 8)) (defBody (top 8)) (defScope (top 8)) [] [] (He.fAd K ("_law_choice", none)) fd ∧ FnOk P w K mg base (L2.CX P w) 9 (He.fAd K ("_law_choice", none)) fd ["_law_bag_here", "_law_things"] (SpOf (rcOf K w cons) fn__law_choice 2) := by
  obtain ⟨fd, F⟩ := c.def_ 8 (d := d__law_choice)
  exact ⟨fd, F, fnD_ok (R := rcOf K w cons) (tb_8 c X G) F sc__law_choice cp__law_choice⟩
theorem tb_9 (c : SaysS cons fn ts w K) (X : K.In h) (G : h.Ns mainGlobals mg) : TabOk (rcOf K w cons) P mg base 9 f_9 cons := by
  obtain ⟨fd, F, ok⟩ := ok_8 (P := P) (base := base) c X G
  exact TabOk.add ((tb_8 c X G).up (Nat.le_succ 8)) (c.glo X G 8 (d := d__law_choice)) F.kp ok (F.bindsN fun _ _ _ _ _ _ us hl => match us, hl with | [_, _], _ => rfl)
theorem ok_9 (c : SaysS cons fn ts w K) (X : K.In h) (G : h.Ns mainGlobals mg) : ∃ fd, FunD K "_law_source" "_law_source" (defArgs (top 10)) (defBody (top 10)) (defScope (top 10)) [] [] (He.fAd K ("_law_source", none)) fd ∧ FnOk P w K mg base (L2.CX P w) 10 (He.fAd K ("_law_source", none)) fd ["_law_bag_here"] (SpOf (rcOf K w cons) fn__law_source 1) := by
  obtain ⟨fd, F⟩ := c.def_ 9 (d := d__law_source)
  exact ⟨fd, F, fnD_ok (R := rcOf K w cons) (tb_9 c X G) F sc__law_source cp__law_source⟩
theorem tb_10 (c : SaysS cons fn ts w K) (X : K.In h) (G : h.Ns mainGlobals mg) : TabOk (rcOf K w cons) P mg base 10 f_10 cons := by
  obtain ⟨fd, F, ok⟩ := ok_9 (P := P) (base := base) c X G
  exact TabOk.add ((tb_9 c X G).up (Nat.le_succ 9)) (c.glo X G 9 (d := d__law_source)) F.kp ok (F.bindsN fun _ _ _ _ _ _ us hl => match us, hl with | [_], _ => rfl)
theorem ok_10 (c : SaysS cons fn ts w K) (X : K.In h) (G : h.Ns mainGlobals mg) : ∃ fd, FunD K "_law_instruction" "_law_instruction" (defArgs (top 11)) (defBody (top 11)) (defScope (top 11)) [] [] (He.fAd K ("_law_instruction", none)) fd ∧ FnOk P w K mg base (L2.CX P w) 11 (He.fAd K ("_law_instruction", none)) fd ["_law_bag_here", "_law_many", "_law_rate"] (SpOf (rcOf K w cons) fn__law_instruction 3) := by
  obtain ⟨fd, F⟩ := c.def_ 10 (d := d__law_instruction)
  exact ⟨fd, F, fnD_ok (R := rcOf K w cons) (tb_10 c X G) F sc__law_instruction cp__law_instruction⟩
theorem tb_11 (c : SaysS cons fn ts w K) (X : K.In h) (G : h.Ns mainGlobals mg) : TabOk (rcOf K w cons) P mg base 11 f_11 cons := by
  obtain ⟨fd, F, ok⟩ := ok_10 (P := P) (base := base) c X G
  exact TabOk.add ((tb_10 c X G).up (Nat.le_succ 10)) (c.glo X G 10 (d := d__law_instruction)) F.kp ok (F.bindsN fun _ _ _ _ _ _ us hl => match us, hl with | [_, _, _], _ => rfl)
theorem ok_11 (c : SaysS cons fn ts w K) (X : K.In h) (G : h.Ns mainGlobals mg) : ∃ fd, FunD K "_law_body" "_law_body" (defArgs (top 12)) (defBody (top 12)) (defScope (top 12)) [] [] (He.fAd K ("_law_body", none)) fd ∧ FnOk P w K mg base (L2.CX P w) 12 (He.fAd K ("_law_body", none)) fd ["_law_bag_here"] (SpOf (rcOf K w cons) fn__law_body 1) := by
  obtain ⟨fd, F⟩ := c.def_ 11 (d := d__law_body)
  exact ⟨fd, F, fnD_ok (R := rcOf K w cons) (tb_11 c X G) F sc__law_body cp__law_body⟩
theorem tb_12 (c : SaysS cons fn ts w K) (X : K.In h) (G : h.Ns mainGlobals mg) : TabOk (rcOf K w cons) P mg base 12 f_12 cons := by
  obtain ⟨fd, F, ok⟩ := ok_11 (P := P) (base := base) c X G
  exact TabOk.add ((tb_11 c X G).up (Nat.le_succ 11)) (c.glo X G 11 (d := d__law_body)) F.kp ok (F.bindsN fun _ _ _ _ _ _ us hl => match us, hl with | [_], _ => rfl)
theorem ok_12 (c : SaysS cons fn ts w K) (X : K.In h) (G : h.Ns mainGlobals mg) : ∃ fd, FunD K "_law_bag" "_law_bag" (defArgs (top 6)) (defBody (top 6)) (defScope (top 6)) [] [] (He.fAd K ("_law_bag", none)) fd ∧ FnOk P w K mg base (L2.CX P w) 13 (He.fAd K ("_law_bag", none)) fd ["_law_script"] (SpOf (rcOf K w cons) fn__law_bag 1) := by
  obtain ⟨fd, F⟩ := c.def_ 12 (d := d__law_bag)
  exact ⟨fd, F, fnD_ok (R := rcOf K w cons) (tb_12 c X G) F sc__law_bag cp__law_bag⟩
theorem tb_13 (c : SaysS cons fn ts w K) (X : K.In h) (G : h.Ns mainGlobals mg) : TabOk (rcOf K w cons) P mg base 13 f_13 cons := by
  obtain ⟨fd, F, ok⟩ := ok_12 (P := P) (base := base) c X G
  exact TabOk.add ((tb_12 c X G).up (Nat.le_succ 12)) (c.glo X G 12 (d := d__law_bag)) F.kp ok (F.bindsN fun _ _ _ _ _ _ us hl => match us, hl with | [_], _ => rfl)
theorem ok_13 (c : SaysS cons fn ts w K) (X : K.In h) (G : h.Ns mainGlobals mg) : ∃ fd, FunD K "law" "law" (defArgs (top 17)) (defBody (top 17)) (defScope (top 17)) [] [] (He.fAd K ("law", none)) fd ∧ FnOk P w K mg base (L2.CX P w) 14 (He.fAd K ("law", none)) fd ["_law_script"] (SpOf (rcOf K w cons) fn_law 1) := by
  obtain ⟨fd, F⟩ := c.def_ 13 (d := d_law)
  exact ⟨fd, F, fnD_ok (R := rcOf K w cons) (tb_13 c X G) F sc_law cp_law⟩
end
abbrev R : PySem.W.OpenRow := PySem.W.OpenLaw.row PySem.Challenge.rw_wordmint_k45_layout_steps
abbrev hk : PySem.W.Hook := hookS 4 cons fn ts
def ob (s : PySem.W.SharedT) : Al := obsSG 4 cons fn ts (HandSHeadRun.getT s)
theorem ob_eq (s : PySem.W.SharedT) : ob s = hk.obs s.abs := obsSG_eq (HandSHeadRun.getT_eq s)
def loose : List Str := (["LAYOUT", "EFFECTS", "layout_step", "after_steps", "_law_bag", "_law_pick", "_law_choice", "_law_integer", "_law_source", "_law_instruction", "_law_body", "_law_moved", "_law_due", "_law_same", "_law_items"] : List Str)
theorem run_f (w : World) : HandSHeadRun.RunEq R (PySem.W.view R.prog [17]) hk ob 4000 loose (w.withFollow "special-get-raises" false) := by
  intro os
  kernel_rfl
theorem run_t (w : World) : HandSHeadRun.RunEq R (PySem.W.view R.prog [17]) hk ob 4000 loose (w.withFollow "special-get-raises" true) := by
  intro os
  kernel_rfl
theorem run (w : World) : HandSHeadRun.RunEq R (PySem.W.view R.prog [17]) hk ob 4000 loose w := PySem.W.byRow2 "special-get-raises" (P := fun w => HandSHeadRun.RunEq R (PySem.W.view R.prog [17]) hk ob 4000 loose w) run_f run_t w
theorem facts {P : Program} {w : World} {K : PySem.W.Frag} {h : Heap} {mg : Str → Option Value} {f : Addr} (X : K.In h) (G : h.Ns mainGlobals mg) (hfa : mg ("law" : Str) = some (.ref f)) (c : SaysS cons fn ts w K) :
    ∃ fd : FuncData, (∀ (s : Shared) (v : Value), BindsTo s fd ⟨[v], []⟩ [("_law_script", v)]) ∧ ∀ base : Heap, K.In base → base.Ns mainGlobals mg → FnOk P w K mg base (L2.CX P w) 14 f fd ["_law_script"] (SpOf (rcOf K w cons) fn_law 1) := by
  obtain ⟨fd, F⟩ := c.def_ 13 (d := d_law)
  have e := hfa.symm.trans (c.glo X G 13 (d := d_law))
  cases e
  have b := FunD.bindsA (ps := ["_law_script"]) F fun _ _ _ _ _ _ us hl => match us, hl with | [_], _ => rfl
  exact ⟨fd, fun s v => b s [v] rfl, fun base _ _ => fnD_ok (R := rcOf K w cons) (tb_13 c X G) F sc_law cp_law⟩
end K45

open PySem PySem.W PySem.Calls PyProof.Rows
theorem PySem.Challenge.cw_wordmint_k45_layout_steps_holds : PySem.Challenge.rw_wordmint_k45_layout_steps.Holds := by
  w_on; o_law
  refine HandSHeadRun.head_any (r := OpenLaw.row PySem.Challenge.rw_wordmint_k45_layout_steps) (q := view (OpenLaw.row PySem.Challenge.rw_wordmint_k45_layout_steps).prog [17]) (H := K45.hk) (ob := K45.ob) (M := 4000) (loose := K45.loose) (d := HandSHeadRun.topDef (OpenLaw.row PySem.Challenge.rw_wordmint_k45_layout_steps).prog 17) (kwd := []) K45.ob_eq
    (by kernel_rfl) (fun s => by kernel_rfl) K45.run (by kernel_rfl) (by kernel_rfl) (by kernel_rfl) (by rfl) (by first | assumption | decide +kernel) (by decide +kernel) ⟨rfl, rfl, rfl, rfl, rfl, by decide +kernel⟩ ?hw ?hc
  case hw => w_witness2
  case hc =>
    refine Sh.walkW (l := PySem.Challenge.rw_wordmint_k45_layout_steps) (n := 63) (k := 14) (x := "_law_script") (CX := fun w => L2.CX (PySem.Challenge.rw_wordmint_k45_layout_steps).prog w) rfl (by decide) (by kernel_rfl) ⟨rfl, by decide, by decide⟩ ?F (fun w H s e s' => Sh.cx_none H s e s')
    intro w mg fa h Y G hmg0
    obtain ⟨K, KX, c⟩ := Y
    have hmg : mg ("law" : PySem.Str) = some (.ref fa) := by
      have e : (HandSHeadRun.topDef (OpenLaw.row PySem.Challenge.rw_wordmint_k45_layout_steps).prog 17).name = ("law" : PySem.Str) := by kernel_rfl
      rw [← e]
      exact hmg0
    obtain ⟨fd, hb, hF⟩ := K45.facts (P := (PySem.Challenge.rw_wordmint_k45_layout_steps).prog) (w := w) KX G hmg c
    exact ⟨K, fd, _, KX, hb, fun H a ns hl hO hS => by
      obtain ⟨A', e⟩ := K45.law_true ns hl
      exact Sh.law_sp hO hS e, hF⟩

