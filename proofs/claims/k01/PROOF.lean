import PyProof.Rows.All
import Wide.All
import OpenK.AllK
import Wide.FinOn
import PySem.Challenge.RW_hungwall_k01_whole_sums_and_orders
import HandS.ForMost
import HandS.ForExc
import HandS.ExcInit
import HandS.Gcd
import HandS.IsInst
import HandS.Wide
import HandS.Zip
import HandS.Style
import HandS.EndBits
import HandS.MakeKw
import HandS.TupAny
import HandS.ExcField
import HandS.More
import HandS.Defaults
import HandS.HeadEnd
import HandS.HeadHook1
import HandS.HeadHook2
import HandS.HeadHook4
import HandS.Head0
import HandS.Head1
import HandS.Head2
import HandS.Head3
import Lean
section
set_option Elab.async false
set_option linter.all false
set_option maxRecDepth 100000
set_option maxHeartbeats 4000000
/-! MP0: data, a store of lists, what represents them in the layer's heap; outcomes. -/
namespace MP
open PySem PySem.Spec PyProof.Rows L2

/-- data: immutable data is written out, a mutable list is a number in the store -/
inductive D where
  | non | bl (b : Bool) | int (i : Int) | str (x : Str)
  | tup (xs : List D)
  | lst (l : Nat)
  | frl (xs : List D)
  | exn (n : Str) (ns : List Str) (ds : List D)

abbrev Sto := List (List D)
abbrev Env := List (Option D)

/-- an outcome -/
inductive Res (α : Type) where
  | ok (a : α) (S : Sto)
  | exc (n : Str) (ns : List Str) (ds : List D) (S : Sto)
  | stuck
namespace Res
def bind {α β : Type} (r : Res α) (f : α → Sto → Res β) : Res β := match r with
  | .ok a S => f a S
  | .exc n ns ds S => .exc n ns ds S
  | .stuck => .stuck
@[simp] theorem bind_ok {α β : Type} {a : α} {S : Sto} {f : α → Sto → Res β} : (Res.ok a S).bind f = f a S := rfl
@[simp] theorem bind_exc {α β : Type} {n : Str} {ns : List Str} {ds : List D} {S : Sto} {f : α → Sto → Res β} : (Res.exc n ns ds S : Res α).bind f = .exc n ns ds S := rfl
@[simp] theorem bind_stuck {α β : Type} {f : α → Sto → Res β} : (Res.stuck : Res α).bind f = .stuck := rfl
end Res

/-- what stands around: the written part, the module's names, the exception that an except suite holds -/
structure Cz where
  K : PySem.W.Frag
  mg : Str → Option Value
  xc : Option (Addr × Value × Addr)

/-- a list that is locked, or written -/
def Frz (K : PySem.W.Frag) (H : Hp) (a : Addr) (xs : List V) : Prop :=
  (∃ o, H a = some (.frz o (.lst xs))) ∨
    ∃ (o : Obj) (its : Array Value) (n : Nat), K.lookup a = some o ∧ o.cls = .type "list" ∧ o.dict = none ∧ o.data = .seq its n ∧ its.size ≤ sizeLine ∧ Vals xs its.toList
theorem Frz.sq {K : PySem.W.Frag} {H : Hp} {a : Addr} {xs : List V} (h : Frz K H a xs) : SqL K H a xs := by
  rcases h with h | h
  · exact .inl (.inr h)
  · exact .inr h

mutual
def RepV (c : Cz) (H : Hp) (φ : List Addr) : D → V → Prop
  | .non, v => v = .non
  | .bl b, v => v = .bl b
  | .int i, v => v = .int i
  | .str x, v => v = .str x
  | .tup ds, v => ∃ a xs, v = .ref a ∧ SqT c.K H a xs ∧ RepL c H φ ds xs
  | .lst l, v => ∃ a, v = .ref a ∧ φ[l]? = some a
  | .frl ds, v => ∃ a xs, v = .ref a ∧ Frz c.K H a xs ∧ RepL c H φ ds xs
  | .exn n ns ds, v => ∃ a cls d vs, v = .ref a ∧ c.xc = some (a, cls, d) ∧ c.mg n = some cls ∧ H d = some (.xd (ns.zip vs)) ∧ ns.length = vs.length ∧ RepL c H φ ds vs
def RepL (c : Cz) (H : Hp) (φ : List Addr) : List D → List V → Prop
  | [], vs => vs = []
  | d :: ds, vs => ∃ v vr, vs = v :: vr ∧ RepV c H φ d v ∧ RepL c H φ ds vr
end

/-- the store's lists stand at φ -/
structure RepS (c : Cz) (H : Hp) (φ : List Addr) (S : Sto) : Prop where
  nd : φ.Nodup
  len : φ.length = S.length
  at_ : ∀ (l : Nat) (xs : List D), S[l]? = some xs → ∃ a vs, φ[l]? = some a ∧ H a = some (.lst vs) ∧ RepL c H φ xs vs

/-- a later heap -/
structure Ext (H : Hp) (φ : List Addr) (H' : Hp) (φ' : List Addr) : Prop where
  pre : φ <+: φ'
  keep : ∀ b o, H b = some o → b ∉ φ → H' b = some o
  new : ∀ b, b ∈ φ' → b ∉ φ → H b = none
theorem Ext.refl (H : Hp) (φ : List Addr) : Ext H φ H φ := ⟨List.prefix_refl _, fun _ _ h _ => h, fun _ h n => absurd h n⟩
theorem Ext.trans {H H1 H2 : Hp} {φ φ1 φ2 : List Addr} (a : Ext H φ H1 φ1) (b : Ext H1 φ1 H2 φ2) : Ext H φ H2 φ2 where
  pre := List.IsPrefix.trans a.pre b.pre
  keep := fun x o h n => b.keep x o (a.keep x o h n) fun m => by
    have := a.new x m n
    rw [h] at this
    cases this
  new := fun x h n => by
    by_cases m : x ∈ φ1
    · exact a.new x m n
    · have e := b.new x h m
      cases q : H x with
      | none => rfl
      | some o =>
        have := a.keep x o q n
        rw [e] at this
        cases this

section
variable {c : Cz} {H H' : Hp} {φ φ' : List Addr} {S : Sto}
theorem RepS.isl (r : RepS c H φ S) {a : Addr} (h : a ∈ φ) : ∃ vs, H a = some (.lst vs) := by
  obtain ⟨l, hl⟩ := List.getElem?_of_mem h
  have hl' : l < S.length := by
    have := (List.getElem?_eq_some_iff.mp hl).1
    rw [← r.len]; exact this
  obtain ⟨a', vs, h1, h2, _⟩ := r.at_ l S[l] (List.getElem?_eq_getElem hl')
  rw [hl] at h1
  cases h1
  exact ⟨vs, h2⟩
/-- what is not a list of the store -/
theorem not_in (hφ : ∀ a, a ∈ φ → ∃ vs, H a = some (.lst vs)) {a : Addr} {o : HO} (h : H a = some o) (n : ∀ vs, o ≠ .lst vs) : a ∉ φ := fun m => by
  obtain ⟨vs, e⟩ := hφ a m
  rw [h] at e
  exact n vs (Option.some.inj e)
theorem SqT.ext {K : PySem.W.Frag} (hφ : ∀ a, a ∈ φ → ∃ vs, H a = some (.lst vs)) (e : Ext H φ H' φ') {a : Addr} {xs : List V} (h : SqT K H a xs) : SqT K H' a xs := by
  rcases h with (h | ⟨o, h⟩) | h
  · exact .inl (.inl (e.keep _ _ h (not_in hφ h (fun _ q => by cases q))))
  · exact .inl (.inr ⟨o, e.keep _ _ h (not_in hφ h (fun _ q => by cases q))⟩)
  · exact .inr h
theorem Frz.ext {K : PySem.W.Frag} (hφ : ∀ a, a ∈ φ → ∃ vs, H a = some (.lst vs)) (e : Ext H φ H' φ') {a : Addr} {xs : List V} (h : Frz K H a xs) : Frz K H' a xs := by
  rcases h with ⟨o, h⟩ | h
  · exact .inl ⟨o, e.keep _ _ h (not_in hφ h (fun _ q => by cases q))⟩
  · exact .inr h
theorem pre_get {l : Nat} {a : Addr} (p : φ <+: φ') (h : φ[l]? = some a) : φ'[l]? = some a := by
  obtain ⟨t, rfl⟩ := p
  have := (List.getElem?_eq_some_iff.mp h).1
  rw [List.getElem?_append_left this]
  exact h
mutual
theorem RepV.ext (hφ : ∀ a, a ∈ φ → ∃ vs, H a = some (.lst vs)) (e : Ext H φ H' φ') : ∀ (d : D) (v : V), RepV c H φ d v → RepV c H' φ' d v
  | .non, _, h => by unfold RepV at h ⊢; exact h
  | .bl _, _, h => by unfold RepV at h ⊢; exact h
  | .int _, _, h => by unfold RepV at h ⊢; exact h
  | .str _, _, h => by unfold RepV at h ⊢; exact h
  | .tup ds, _, h => by
    unfold RepV at h ⊢
    obtain ⟨a, xs, e1, e2, e3⟩ := h
    exact ⟨a, xs, e1, SqT.ext hφ e e2, RepL.ext hφ e ds xs e3⟩
  | .lst l, _, h => by
    unfold RepV at h ⊢
    obtain ⟨a, e1, e2⟩ := h
    exact ⟨a, e1, pre_get e.pre e2⟩
  | .frl ds, _, h => by
    unfold RepV at h ⊢
    obtain ⟨a, xs, e1, e2, e3⟩ := h
    exact ⟨a, xs, e1, Frz.ext hφ e e2, RepL.ext hφ e ds xs e3⟩
  | .exn n ns ds, _, h => by
    unfold RepV at h ⊢
    obtain ⟨a, cls, d, vs, e1, e2, e3, e4, e5, e6⟩ := h
    exact ⟨a, cls, d, vs, e1, e2, e3, e.keep _ _ e4 (not_in hφ e4 (fun _ q => by cases q)), e5, RepL.ext hφ e ds vs e6⟩
theorem RepL.ext (hφ : ∀ a, a ∈ φ → ∃ vs, H a = some (.lst vs)) (e : Ext H φ H' φ') : ∀ (ds : List D) (vs : List V), RepL c H φ ds vs → RepL c H' φ' ds vs
  | [], _, h => by unfold RepL at h ⊢; exact h
  | d :: ds, _, h => by
    unfold RepL at h ⊢
    obtain ⟨v, vr, e1, e2, e3⟩ := h
    exact ⟨v, vr, e1, RepV.ext hφ e d v e2, RepL.ext hφ e ds vr e3⟩
end
theorem RepL.length : ∀ {ds : List D} {vs : List V}, RepL c H φ ds vs → ds.length = vs.length
  | [], _, h => by unfold RepL at h; subst h; rfl
  | d :: ds, _, h => by
    unfold RepL at h
    obtain ⟨v, vr, rfl, _, h3⟩ := h
    simp [RepL.length h3]
theorem RepL.get : ∀ {ds : List D} {vs : List V} {i : Nat} {d : D}, RepL c H φ ds vs → ds[i]? = some d → ∃ v, vs[i]? = some v ∧ RepV c H φ d v
  | [], _, _, _, _, e => by simp at e
  | d :: ds, _, 0, _, h, e => by
    unfold RepL at h
    obtain ⟨v, vr, rfl, h2, _⟩ := h
    simp at e; subst e
    exact ⟨v, rfl, h2⟩
  | d :: ds, _, i + 1, x, h, e => by
    unfold RepL at h
    obtain ⟨v, vr, rfl, _, h3⟩ := h
    obtain ⟨w, h1, h2⟩ := RepL.get (i := i) (d := x) h3 (by simpa using e)
    exact ⟨w, by simpa using h1, h2⟩
theorem RepL.getV : ∀ {ds : List D} {vs : List V} {i : Nat} {v : V}, RepL c H φ ds vs → vs[i]? = some v → ∃ d, ds[i]? = some d ∧ RepV c H φ d v
  | [], _, _, _, h, e => by unfold RepL at h; subst h; simp at e
  | d :: ds, _, 0, _, h, e => by
    unfold RepL at h
    obtain ⟨v, vr, rfl, h2, _⟩ := h
    simp at e; subst e
    exact ⟨d, rfl, h2⟩
  | d :: ds, _, i + 1, x, h, e => by
    unfold RepL at h
    obtain ⟨v, vr, rfl, _, h3⟩ := h
    obtain ⟨w, h1, h2⟩ := RepL.getV (i := i) (v := x) h3 (by simpa using e)
    exact ⟨w, by simpa using h1, h2⟩
theorem RepL.append : ∀ {ds es : List D} {vs us : List V}, RepL c H φ ds vs → RepL c H φ es us → RepL c H φ (ds ++ es) (vs ++ us)
  | [], _, _, _, h, q => by unfold RepL at h; subst h; exact q
  | d :: ds, _, _, _, h, q => by
    unfold RepL at h
    obtain ⟨v, vr, rfl, h2, h3⟩ := h
    show RepL c H φ (d :: (ds ++ _)) (v :: (vr ++ _))
    unfold RepL
    exact ⟨v, _, rfl, h2, RepL.append h3 q⟩
theorem RepL.nil : RepL c H φ [] [] := by unfold RepL; rfl
theorem RepL.cons {d : D} {v : V} {ds : List D} {vs : List V} (h : RepV c H φ d v) (q : RepL c H φ ds vs) : RepL c H φ (d :: ds) (v :: vs) := by unfold RepL; exact ⟨v, vs, rfl, h, q⟩
theorem RepL.take : ∀ (n : Nat) {ds : List D} {vs : List V}, RepL c H φ ds vs → RepL c H φ (ds.take n) (vs.take n)
  | 0, _, _, _ => by simp only [List.take_zero]; exact .nil
  | n + 1, [], _, h => by unfold RepL at h; subst h; simp only [List.take_nil]; exact .nil
  | n + 1, d :: ds, _, h => by
    unfold RepL at h
    obtain ⟨v, vr, rfl, h2, h3⟩ := h
    simp only [List.take_succ_cons]
    exact .cons h2 (RepL.take n h3)
theorem RepL.drop : ∀ (n : Nat) {ds : List D} {vs : List V}, RepL c H φ ds vs → RepL c H φ (ds.drop n) (vs.drop n)
  | 0, _, _, h => h
  | n + 1, [], _, h => by unfold RepL at h; subst h; simp only [List.drop_nil]; exact .nil
  | n + 1, d :: ds, _, h => by
    unfold RepL at h
    obtain ⟨v, vr, rfl, h2, h3⟩ := h
    simp only [List.drop_succ_cons]
    exact RepL.drop n h3
theorem RepL.set : ∀ (n : Nat) {ds : List D} {vs : List V} {d : D} {v : V}, RepL c H φ ds vs → RepV c H φ d v → RepL c H φ (ds.set n d) (vs.set n v)
  | _, [], _, _, _, h, _ => by unfold RepL at h; subst h; exact .nil
  | 0, d :: ds, _, _, _, h, q => by
    unfold RepL at h
    obtain ⟨v, vr, rfl, h2, h3⟩ := h
    exact .cons q h3
  | n + 1, d :: ds, _, _, _, h, q => by
    unfold RepL at h
    obtain ⟨v, vr, rfl, h2, h3⟩ := h
    exact .cons h2 (RepL.set n h3 q)
theorem RepL.reverse : ∀ {ds : List D} {vs : List V}, RepL c H φ ds vs → RepL c H φ ds.reverse vs.reverse
  | [], _, h => by unfold RepL at h; subst h; exact .nil
  | d :: ds, _, h => by
    unfold RepL at h
    obtain ⟨v, vr, rfl, h2, h3⟩ := h
    simp only [List.reverse_cons]
    exact RepL.append (RepL.reverse h3) (.cons h2 .nil)
theorem RepL.eraseIdx : ∀ (n : Nat) {ds : List D} {vs : List V}, RepL c H φ ds vs → RepL c H φ (ds.eraseIdx n) (vs.eraseIdx n)
  | _, [], _, h => by unfold RepL at h; subst h; simp only [List.eraseIdx_nil]; exact .nil
  | 0, d :: ds, _, h => by
    unfold RepL at h
    obtain ⟨v, vr, rfl, h2, h3⟩ := h
    exact h3
  | n + 1, d :: ds, _, h => by
    unfold RepL at h
    obtain ⟨v, vr, rfl, h2, h3⟩ := h
    simp only [List.eraseIdx_cons_succ]
    exact .cons h2 (RepL.eraseIdx n h3)

/-! ### the store changes -/
theorem RepS.ls (r : RepS c H φ S) : ∀ a, a ∈ φ → ∃ vs, H a = some (.lst vs) := fun _ h => r.isl h
/-- other things are laid beside -/
theorem RepS.keep (r : RepS c H φ S) (k : ∀ b o, H b = some o → H' b = some o) : RepS c H' φ S ∧ Ext H φ H' φ := by
  have e : Ext H φ H' φ := ⟨List.prefix_refl _, fun b o h _ => k b o h, fun _ h n => absurd h n⟩
  refine ⟨⟨r.nd, r.len, fun l xs h => ?_⟩, e⟩
  obtain ⟨a, vs, h1, h2, h3⟩ := r.at_ l xs h
  exact ⟨a, vs, h1, k _ _ h2, RepL.ext r.ls e _ _ h3⟩
theorem upd_keep {o : HO} {p : Addr} (hp : H p = none) : ∀ b u, H b = some u → upd H p o b = some u := fun b u h => by
  rw [upd_ne (ne_of_none h hp)]; exact h
/-- a new list -/
theorem RepS.push (r : RepS c H φ S) {p : Addr} {xs : List D} {vs : List V} (hp : H p = none) (hx : RepL c H φ xs vs) : RepS c (upd H p (.lst vs)) (φ ++ [p]) (S ++ [xs]) ∧ Ext H φ (upd H p (.lst vs)) (φ ++ [p]) := by
  have np : p ∉ φ := fun m => by
    obtain ⟨vs, e⟩ := r.isl m
    rw [hp] at e; cases e
  have e : Ext H φ (upd H p (.lst vs)) (φ ++ [p]) := by
    refine ⟨List.prefix_append _ _, fun b o h _ => upd_keep hp b o h, fun b h n => ?_⟩
    rcases List.mem_append.mp h with h | h
    · exact absurd h n
    · simp at h; subst h; exact hp
  refine ⟨⟨?_, by simp [r.len], fun l ys h => ?_⟩, e⟩
  · rw [List.nodup_append]
    refine ⟨r.nd, by simp, fun a ha b hb => ?_⟩
    simp at hb; subst hb
    exact fun q => np (q ▸ ha)
  · by_cases hl : l < S.length
    · rw [List.getElem?_append_left hl] at h
      obtain ⟨a, us, h1, h2, h3⟩ := r.at_ l ys h
      exact ⟨a, us, pre_get e.pre h1, upd_keep hp _ _ h2, RepL.ext r.ls e _ _ h3⟩
    · have hl' : l < (S ++ [xs]).length := (List.getElem?_eq_some_iff.mp h).1
      have el : l = S.length := by simp at hl'; omega
      subst el
      rw [List.getElem?_append_right (Nat.le_refl _)] at h
      simp at h
      subst h
      refine ⟨p, vs, ?_, upd_same, RepL.ext r.ls e _ _ hx⟩
      rw [← r.len, List.getElem?_append_right (Nat.le_refl _)]
      simp
/-- a list is changed -/
theorem RepS.write (r : RepS c H φ S) {l : Nat} {a : Addr} {xs : List D} {vs : List V} (hl : φ[l]? = some a) (hx : RepL c H φ xs vs) : RepS c (upd H a (.lst vs)) φ (S.set l xs) ∧ Ext H φ (upd H a (.lst vs)) φ := by
  have ma : a ∈ φ := List.mem_of_getElem? hl
  have e : Ext H φ (upd H a (.lst vs)) φ := by
    refine ⟨List.prefix_refl _, fun b o h n => ?_, fun _ h n => absurd h n⟩
    rw [upd_ne (fun q => n (by rw [q]; exact ma))]
    exact h
  refine ⟨⟨r.nd, by simp [r.len], fun k ys h => ?_⟩, e⟩
  by_cases hk : l = k
  · subst hk
    have lt : l < S.length := by
      have := (List.getElem?_eq_some_iff.mp hl).1
      rw [r.len] at this; exact this
    rw [List.getElem?_set_self lt] at h
    cases h
    exact ⟨a, vs, hl, upd_same, RepL.ext r.ls e _ _ hx⟩
  · rw [List.getElem?_set_ne hk] at h
    obtain ⟨b, us, h1, h2, h3⟩ := r.at_ k ys h
    refine ⟨b, us, h1, ?_, RepL.ext r.ls e _ _ h3⟩
    rw [upd_ne ?_]
    · exact h2
    · intro q
      subst q
      exact hk (nodup_ix' r.nd hl h1)
where
  nodup_ix' {N : List Addr} (hN : N.Nodup) {i j : Nat} {x : Addr} (a : N[i]? = some x) (b : N[j]? = some x) : i = j := by
    obtain ⟨h1, e1⟩ := List.getElem?_eq_some_iff.mp a
    obtain ⟨h2, e2⟩ := List.getElem?_eq_some_iff.mp b
    exact (List.getElem_inj hN).mp (e1.trans e2.symm)
end
end MP
end
section
set_option Elab.async false
set_option linter.all false
set_option maxRecDepth 100000
set_option maxHeartbeats 4000000
/-! MP1: judgements over data: expressions, tests, arguments; the rules for the layer's constructs. -/
namespace MP
open PySem PySem.Spec PyProof.Rows L2
abbrev St := L2.St

/-- what an outcome asks of what follows -/
def Out {α β : Type} (c : Cz) (H : Hp) (φ : List Addr) (rel : Hp → List Addr → α → β → Prop) (r : Res α) (Q : β → Hp → Prop) (E : XK) : Prop :=
  match r with
  | .ok x S' => ∀ (φ' : List Addr) (H' : Hp) (y : β), Ext H φ H' φ' → RepS c H' φ' S' → rel H' φ' x y → Q y H'
  | .exc n ns ds S' => ∀ (φ' : List Addr) (H' : Hp) (cls : Value) (dx : Addr) (vs : List V), Ext H φ H' φ' → RepS c H' φ' S' → c.mg n = some cls → H' dx = some (.xd (ns.zip vs)) → ns.length = vs.length → RepL c H' φ' ds vs → E cls (some dx) H'
  | .stuck => False
theorem Out.bind {α β γ δ : Type} {c : Cz} {H : Hp} {φ : List Addr} {rel : Hp → List Addr → α → β → Prop} {rel' : Hp → List Addr → γ → δ → Prop} {r : Res α} {f : α → Sto → Res γ} {Q : δ → Hp → Prop} {E : XK}
    (h : Out c H φ rel' (r.bind f) Q E) {R : β → Hp → Prop}
    (k : ∀ x S' φ' H' y, Ext H φ H' φ' → RepS c H' φ' S' → rel H' φ' x y → Out c H' φ' rel' (f x S') Q E → R y H') : Out c H φ rel r R E := by
  cases r with
  | ok x S' =>
    intro φ' H' y e s r
    refine k x S' φ' H' y e s r ?_
    have h : Out c H φ rel' (f x S') Q E := h
    revert h
    cases f x S' with
    | ok z S'' => intro h φ'' H'' w e' s' r'; exact h φ'' H'' w (e.trans e') s' r'
    | exc n ns ds S'' => intro h φ'' H'' cls dx vs e' s'; exact h φ'' H'' cls dx vs (e.trans e') s'
    | stuck => intro h; exact h
  | exc n ns ds S' => exact h
  | stuck => exact h
theorem Out.later {α β : Type} {c : Cz} {H H1 : Hp} {φ φ1 : List Addr} {rel : Hp → List Addr → α → β → Prop} {r : Res α} {Q : β → Hp → Prop} {E : XK} (h : Out c H φ rel r Q E) (e : Ext H φ H1 φ1) : Out c H1 φ1 rel r Q E := by
  cases r with
  | ok x S' => intro φ' H' y e' s r; exact h φ' H' y (e.trans e') s r
  | exc n ns ds S' => intro φ' H' cls dx vs e' s; exact h φ' H' cls dx vs (e.trans e') s
  | stuck => exact h
theorem Out.weak {α β : Type} {c : Cz} {H : Hp} {φ : List Addr} {rel : Hp → List Addr → α → β → Prop} {r : Res α} {Q Q' : β → Hp → Prop} {E E' : XK} (h : Out c H φ rel r Q E) (hQ : ∀ y H', Q y H' → Q' y H') (hE : ∀ a b H', E a b H' → E' a b H') : Out c H φ rel r Q' E' := by
  cases r with
  | ok x S' => intro φ' H' y e s r; exact hQ _ _ (h φ' H' y e s r)
  | exc n ns ds S' => intro φ' H' cls dx vs e s a b c d; exact hE _ _ _ (h φ' H' cls dx vs e s a b c d)
  | stuck => exact h

/-- the frame's values -/
def RepE (c : Cz) (H : Hp) (φ : List Addr) (ρ : Env) (σ : St) : Prop := ρ.length = σ.length ∧ ∀ (i : Nat) (d : D), ρ[i]? = some (some d) → ∃ v, σ[i]? = some (some v) ∧ RepV c H φ d v
theorem RepE.ext {c : Cz} {H H' : Hp} {φ φ' : List Addr} {ρ : Env} {σ : St} {S : Sto} (h : RepE c H φ ρ σ) (s : RepS c H φ S) (e : Ext H φ H' φ') : RepE c H' φ' ρ σ :=
  ⟨h.1, fun i d q => by
    obtain ⟨v, h1, h2⟩ := h.2 i d q
    exact ⟨v, h1, RepV.ext s.ls e _ _ h2⟩⟩
theorem RepE.set {c : Cz} {H : Hp} {φ : List Addr} {ρ : Env} {σ : St} (h : RepE c H φ ρ σ) {i : Nat} {d : D} {v : V} (r : RepV c H φ d v) : RepE c H φ (ρ.set i (some d)) (σ.set i (some v)) := by
  refine ⟨by simp [h.1], fun j e q => ?_⟩
  by_cases hj : i = j
  · subst hj
    by_cases hl : i < ρ.length
    · rw [List.getElem?_set_self hl] at q
      cases q
      exact ⟨v, List.getElem?_set_self (by rw [← h.1]; exact hl), r⟩
    · rw [List.getElem?_eq_none (by simpa using hl)] at q
      cases q
  · rw [List.getElem?_set_ne hj] at q ⊢
    exact h.2 j e q
theorem RepE.unset {c : Cz} {H : Hp} {φ : List Addr} {ρ : Env} {σ : St} (h : RepE c H φ ρ σ) {i : Nat} {o : Option V} : RepE c H φ (ρ.set i none) (σ.set i o) := by
  refine ⟨by simp [h.1], fun j e q => ?_⟩
  by_cases hj : i = j
  · subst hj
    by_cases hl : i < ρ.length
    · rw [List.getElem?_set_self hl] at q
      cases q
    · rw [List.getElem?_eq_none (by simpa using hl)] at q
      cases q
  · rw [List.getElem?_set_ne hj] at q ⊢
    exact h.2 j e q

abbrev Ev := Env → Sto → Res D
abbrev EvB := Env → Sto → Res Bool
abbrev EvA := Env → Sto → Res (List D)
def eqB : Hp → List Addr → Bool → Bool → Prop := fun _ _ a b => a = b

def TEm (c : Cz) (W : WX) (ev : Ev) : TE := fun σ H Q => ∃ φ ρ S, RepE c H φ ρ σ ∧ RepS c H φ S ∧ Out c H φ (RepV c) (ev ρ S) Q (fun cls d H' => W cls d σ H')
def TTm (c : Cz) (W : WX) (ev : EvB) : TT := fun σ H Q => ∃ φ ρ S, RepE c H φ ρ σ ∧ RepS c H φ S ∧ Out c H φ eqB (ev ρ S) Q (fun cls d H' => W cls d σ H')
def TAm (c : Cz) (W : WX) (ev : EvA) : TA := fun σ H Q => ∃ φ ρ S, RepE c H φ ρ σ ∧ RepS c H φ S ∧ Out c H φ (RepL c) (ev ρ S) Q (fun cls d H' => W cls d σ H')

/-- what is known of the context -/
structure Sh (X : Cx) (c : Cz) (W : WX) : Prop where
  kk : c.K = X.K
  mm : c.mg = X.mg
  tk : Takes X W
  ow : PassesOwn (model X.prog X.w) X.A X.env X.xe
  nd : X.N.Nodup

def ME (X : Cx) (c : Cz) (W : WX) (e : Expr) (ev : Ev) : Prop := Sh X c W → PE X e (TEm c W ev)
def MT (X : Cx) (c : Cz) (W : WX) (e : Expr) (ev : EvB) : Prop := Sh X c W → PT X e (TTm c W ev)
def MW (X : Cx) (c : Cz) (W : WX) (e : Expr) (ev : EvB) : Prop := Sh X c W → PW X e (TTm c W ev)
def MA (X : Cx) (c : Cz) (W : WX) (es : List Expr) (ev : EvA) : Prop := Sh X c W → PA X es (TAm c W ev)

theorem PE.imp {X : Cx} {e : Expr} {t t' : TE} (h : PE X e t) (k : ∀ σ H Q, t' σ H Q → t σ H Q) : PE X e t' := ⟨fun pins s σ H Q I q => h.run pins s σ H Q I (k σ H Q q)⟩
theorem PT.imp {X : Cx} {e : Expr} {t t' : TT} (h : PT X e t) (k : ∀ σ H Q, t' σ H Q → t σ H Q) : PT X e t' := ⟨fun pins s σ H Q I q => h.run pins s σ H Q I (k σ H Q q)⟩
theorem PW.imp {X : Cx} {e : Expr} {t t' : TT} (h : PW X e t) (k : ∀ σ H Q, t' σ H Q → t σ H Q) : PW X e t' := ⟨fun wh pins s σ H Q I q => h.run wh pins s σ H Q I (k σ H Q q)⟩
theorem PA.imp {X : Cx} {es : List Expr} {t t' : TA} (h : PA X es t) (k : ∀ σ H Q, t' σ H Q → t σ H Q) : PA X es t' := ⟨fun pos pins s σ H Q I q => h.run pos pins s σ H Q I (k σ H Q q)⟩

/-! ### the evaluators -/
def eVar (i : Nat) : Ev := fun ρ S => match ρ[i]? with
  | some (some d) => .ok d S
  | _ => .stuck
def eC (d : D) : Ev := fun _ S => .ok d S
def lift {α : Type} : Option (α × Sto) → Res α
  | some (d, S) => .ok d S
  | none => .stuck
@[simp] theorem lift_some {α : Type} {d : α} {S : Sto} : lift (some (d, S)) = .ok d S := rfl
@[simp] theorem lift_none {α : Type} : lift (none : Option (α × Sto)) = .stuck := rfl
def eB (g : D → D → Sto → Option (D × Sto)) (a b : Ev) : Ev := fun ρ S => (a ρ S).bind fun x S1 => (b ρ S1).bind fun y S2 => lift (g x y S2)
def eU (g : D → Sto → Option (D × Sto)) (a : Ev) : Ev := fun ρ S => (a ρ S).bind fun x S1 => lift (g x S1)
def eL (g : List D → Sto → Option (D × Sto)) (a : EvA) : Ev := fun ρ S => (a ρ S).bind fun ds S1 => lift (g ds S1)
def boolOf : D → Sto → Res Bool
  | .bl b, S => .ok b S
  | _, _ => .stuck
def eTest (a : Ev) : EvB := fun ρ S => (a ρ S).bind boolOf
def eNotT (a : EvB) : EvB := fun ρ S => (a ρ S).bind fun b S1 => .ok (!b) S1
def eAndT (a b : EvB) : EvB := fun ρ S => (a ρ S).bind fun k S1 => if k = true then b ρ S1 else .ok false S1
def eOrT (a b : EvB) : EvB := fun ρ S => (a ρ S).bind fun k S1 => if k = true then .ok true S1 else b ρ S1
def eNot (a : Ev) : Ev := fun ρ S => (a ρ S).bind fun d S1 => match d with
  | .bl b => .ok (.bl (!b)) S1
  | _ => .stuck
def eAnd (a b : Ev) : Ev := fun ρ S => (a ρ S).bind fun d S1 => match d with
  | .bl k => if k = true then b ρ S1 else .ok (.bl false) S1
  | _ => .stuck
def eOr (a b : Ev) : Ev := fun ρ S => (a ρ S).bind fun d S1 => match d with
  | .bl k => if k = true then .ok (.bl true) S1 else b ρ S1
  | _ => .stuck
def eIf (t : EvB) (a b : Ev) : Ev := fun ρ S => (t ρ S).bind fun k S1 => if k = true then a ρ S1 else b ρ S1
def aNil : EvA := fun _ S => .ok [] S
def aCons (a : Ev) (r : EvA) : EvA := fun ρ S => (a ρ S).bind fun d S1 => (r ρ S1).bind fun ds S2 => .ok (d :: ds) S2
def dTup (ds : List D) (S : Sto) : Option (D × Sto) := if ds.length ≤ 1000 then some (.tup ds, S) else none
def dLst (ds : List D) (S : Sto) : Option (D × Sto) := if ds.length ≤ 1000 then some (.lst S.length, S ++ [ds]) else none
def eTup (a : EvA) : Ev := eL dTup a
def eLst (a : EvA) : Ev := eL dLst a
def eChain (g g' : D → D → Sto → Option (D × Sto)) (a b d : Ev) : Ev := fun ρ S => (a ρ S).bind fun x S1 => (b ρ S1).bind fun y S2 => (lift (g x y S2)).bind fun z S3 => match z with
  | .bl k => if k = true then (d ρ S3).bind fun w S4 => lift (g' y w S4) else .ok (.bl false) S3
  | _ => .stuck

/-- an operation on data -/
def OutO {α β : Type} (c : Cz) (H : Hp) (φ : List Addr) (rel : Hp → List Addr → α → β → Prop) (r : Option (α × Sto)) (Q : β → Hp → Prop) : Prop :=
  match r with
  | some (x, S') => ∀ (φ' : List Addr) (H' : Hp) (y : β), Ext H φ H' φ' → RepS c H' φ' S' → rel H' φ' x y → Q y H'
  | none => False
theorem OutO.of {α β : Type} {c : Cz} {H : Hp} {φ : List Addr} {rel : Hp → List Addr → α → β → Prop} {r : Option (α × Sto)} {Q : β → Hp → Prop} {E : XK} (h : Out c H φ rel (lift r) Q E) : OutO c H φ rel r Q := by
  cases r with
  | none => exact h
  | some p => exact h
def OpD (X : Cx) (c : Cz) (f : Value → Value → Sem Value) (g : D → D → Sto → Option (D × Sto)) : Prop :=
  c.K = X.K → OpR X f fun x y H Q => ∃ φ S d e, RepS c H φ S ∧ RepV c H φ d x ∧ RepV c H φ e y ∧ OutO c H φ (RepV c) (g d e S) Q
def UnD (X : Cx) (c : Cz) (f : Value → Sem Value) (g : D → Sto → Option (D × Sto)) : Prop :=
  c.K = X.K → UnR X f fun x H Q => ∃ φ S d, RepS c H φ S ∧ RepV c H φ d x ∧ OutO c H φ (RepV c) (g d S) Q
def CallD (X : Cx) (c : Cz) (f : Value) (g : List D → Sto → Option (D × Sto)) : Prop :=
  c.K = X.K → CallR X f fun vs H Q => ∃ φ S ds, RepS c H φ S ∧ RepL c H φ ds vs ∧ OutO c H φ (RepV c) (g ds S) Q
def IxD (X : Cx) (c : Cz) (g : D → D → Sto → Option (D × Sto)) : Prop :=
  c.K = X.K → IxR X fun x y H Q => ∃ φ S d e, RepS c H φ S ∧ RepV c H φ d x ∧ RepV c H φ e y ∧ OutO c H φ (RepV c) (g d e S) Q

section
variable {X : Cx} {c : Cz} {W : WX} {a b d : Expr} {ea eb ed : Ev} {pos : Pos}

theorem me_var (i : Nat) {x : Str} (hN : X.N[i]? = some x := by rfl) (hv : Vis X.env.scope x := by first | exact Or.inl rfl | exact Or.inr (Or.inl rfl) | exact Or.inr (Or.inr rfl)) (hd : (x == ("__debug__" : Str)) = false := by decide)
    (hcd : (x == ("__classdict__" : Str)) = false := by decide) : ME X c W (.Name x pos) (eVar i) := fun _ => by
  refine PE.imp (pe_var hN hv hd hcd) fun σ H Q ⟨φ, ρ, S, re, rs, o⟩ => ?_
  unfold eVar at o
  split at o
  · rename_i dd q
    obtain ⟨v, h1, h2⟩ := re.2 i dd q
    exact ⟨v, h1, o φ H v (.refl _ _) rs h2⟩
  · exact o.elim
theorem me_c {e : Expr} {v : V} {dd : D} (h : PE X e (tC v)) (r : ∀ H φ, RepV c H φ dd v) : ME X c W e (eC dd) := fun _ => by
  refine PE.imp h fun σ H Q ⟨φ, ρ, S, re, rs, o⟩ => ?_
  exact o φ H v (.refl _ _) rs (r _ _)
theorem me_int {i : Int} {j : Nat} : ME X c W (.Constant (.int i) j pos) (eC (.int i)) := me_c pe_int fun _ _ => by unfold RepV; rfl
theorem me_bl {i : Bool} {j : Nat} : ME X c W (.Constant (.bool i) j pos) (eC (.bl i)) := me_c pe_bl fun _ _ => by unfold RepV; rfl
theorem me_non {j : Nat} : ME X c W (.Constant .none j pos) (eC .non) := me_c pe_non fun _ _ => by unfold RepV; rfl
theorem me_str {x : Str} {j : Nat} : ME X c W (.Constant (.str x) j pos) (eC (.str x)) := me_c pe_str fun _ _ => by unfold RepV; rfl

/-- two in a row, at the level of the readings -/
theorem two {σ : St} {H : Hp} {Q : VK} {f : D → D → Sto → Res D} {R : V → V → Hp → Prop}
    (h : TEm c W (fun ρ S => (ea ρ S).bind fun x S1 => (eb ρ S1).bind fun y S2 => f x y S2) σ H Q)
    (k : ∀ φ S d e x y H', RepS c H' φ S → RepV c H' φ d x → RepV c H' φ e y → Out c H' φ (RepV c) (f d e S) Q (fun cls d H' => W cls d σ H') → R x y H') :
    TEm c W ea σ H fun x H1 => TEm c W eb σ H1 fun y H2 => R x y H2 := by
  obtain ⟨φ, ρ, S, re, rs, o⟩ := h
  refine ⟨φ, ρ, S, re, rs, Out.bind o fun x S1 φ1 H1 v e1 s1 r1 o1 => ?_⟩
  refine ⟨φ1, ρ, S1, re.ext rs e1, s1, Out.bind o1 fun y S2 φ2 H2 u e2 s2 r2 o2 => ?_⟩
  exact k φ2 S2 x y v u H2 s2 (RepV.ext s1.ls e2 _ _ r1) r2 o2
theorem me_bin {op : Operator} {g : D → D → Sto → Option (D × Sto)} (ho : OpD X c (binaryOp op) g) (ha : ME X c W a ea) (hb : ME X c W b eb) : ME X c W (.BinOp a op b pos) (eB g ea eb) := fun s => by
  refine PE.imp (pe_op (ho s.kk) (ha s) (hb s)) fun σ H Q h => ?_
  exact two h fun φ S d e x y H' s1 r1 r2 o => ⟨φ, S, d, e, s1, r1, r2, OutO.of o⟩
theorem me_cmp {op : CmpOp} {g : D → D → Sto → Option (D × Sto)} (ho : OpD X c (compareOp op) g) (ha : ME X c W a ea) (hb : ME X c W b eb) (hm : behindInMarks op b = false := by first | exact nomark _ | rfl) : ME X c W (.Compare a [op] [b] pos) (eB g ea eb) := fun s => by
  refine PE.imp (pe_cmpR (ho s.kk) (ha s) (hb s) hm) fun σ H Q h => ?_
  exact two h fun φ S d e x y H' s1 r1 r2 o => ⟨φ, S, d, e, s1, r1, r2, OutO.of o⟩
theorem mt_cmp {op : CmpOp} {g : D → D → Sto → Option (D × Sto)} (ho : OpD X c (compareOp op) g) (ha : ME X c W a ea) (hb : ME X c W b eb) (hm : behindInMarks op b = false := by first | exact nomark _ | rfl) : MT X c W (.Compare a [op] [b] pos) (eTest (eB g ea eb)) := fun s => by
  refine PT.imp (pt_cmpR (ho s.kk) (ha s) (hb s) hm) fun σ H Q h => ?_
  obtain ⟨φ, ρ, S, re, rs, o⟩ := h
  have h2 : TEm c W (eB g ea eb) σ H fun x H' => ∃ k, x = .bl k ∧ Q k H' := by
    refine ⟨φ, ρ, S, re, rs, Out.bind o fun x S1 φ1 H1 v e1 s1 r1 o1 => ?_⟩
    cases x <;> first
      | exact False.elim o1
      | (unfold RepV at r1
         exact ⟨_, r1, o1 φ1 H1 _ (.refl _ _) s1 rfl⟩)
  exact two h2 fun φ S d e x y H' s1 r1 r2 o => ⟨φ, S, d, e, s1, r1, r2, OutO.of o⟩
theorem me_un {op : UnaryOp} {g : D → Sto → Option (D × Sto)} (ho : UnD X c (unaryOp op) g) (ha : ME X c W a ea) : ME X c W (.UnaryOp op a pos) (eU g ea) := fun s => by
  refine PE.imp (pe_un (ho s.kk) (ha s)) fun σ H Q ⟨φ, ρ, S, re, rs, o⟩ => ?_
  exact ⟨φ, ρ, S, re, rs, Out.bind o fun x S1 φ1 H1 v e1 s1 r1 o1 => ⟨φ1, S1, x, s1, r1, OutO.of o1⟩⟩
/-! tests -/
theorem mt_val (h : ME X c W a ea) (he : ∀ whole, isTrue a X.env whole = (do let v ← whole; standAt a.pos; holding [v] (truthy v)) := by intro _; rfl) : MT X c W a (eTest ea) := fun s => by
  refine PT.imp (pt_val (h s) he) fun σ H Q ⟨φ, ρ, S, re, rs, o⟩ => ?_
  refine ⟨φ, ρ, S, re, rs, Out.bind o fun x S1 φ1 H1 v e1 s1 r1 o1 => ?_⟩
  cases x <;> first
    | exact False.elim o1
    | (unfold RepV at r1
       exact ⟨_, r1, o1 φ1 H1 _ (.refl _ _) s1 rfl⟩)
variable {ta tb : EvB} {rest : List Expr}
theorem mt_not (h : MT X c W a ta) : MT X c W (.UnaryOp .Not a pos) (eNotT ta) := fun s => by
  refine PT.imp (pt_not (h s)) fun σ H Q ⟨φ, ρ, S, re, rs, o⟩ => ?_
  refine ⟨φ, ρ, S, re, rs, Out.bind o fun x S1 φ1 H1 v e1 s1 r1 o1 => ?_⟩
  unfold eqB at r1
  subst r1
  exact o1 φ1 H1 _ (.refl _ _) s1 rfl
theorem mw_pt (h : MW X c W a ta) : MT X c W a ta := fun s => (h s).pt
theorem mw_and1 (h : MT X c W a ta) : MW X c W (.BoolOp .And [a] pos) ta := fun s => pw_and1 (h s)
theorem mw_or1 (h : MT X c W a ta) : MW X c W (.BoolOp .Or [a] pos) ta := fun s => pw_or1 (h s)
theorem mw_and (ha : MT X c W a ta) (hb : MW X c W (.BoolOp .And (b :: rest) pos) tb) : MW X c W (.BoolOp .And (a :: b :: rest) pos) (eAndT ta tb) := fun s => by
  refine PW.imp (pw_and (ha s) (hb s)) fun σ H Q ⟨φ, ρ, S, re, rs, o⟩ => ?_
  refine ⟨φ, ρ, S, re, rs, Out.bind o fun x S1 φ1 H1 v e1 s1 r1 o1 => ?_⟩
  unfold eqB at r1
  subst r1
  cases x with
  | true => exact iteT ⟨φ1, ρ, S1, re.ext rs e1, s1, o1⟩
  | false => exact iteF (o1 φ1 H1 _ (.refl _ _) s1 rfl)
theorem mw_or (ha : MT X c W a ta) (hb : MW X c W (.BoolOp .Or (b :: rest) pos) tb) : MW X c W (.BoolOp .Or (a :: b :: rest) pos) (eOrT ta tb) := fun s => by
  refine PW.imp (pw_or (ha s) (hb s)) fun σ H Q ⟨φ, ρ, S, re, rs, o⟩ => ?_
  refine ⟨φ, ρ, S, re, rs, Out.bind o fun x S1 φ1 H1 v e1 s1 r1 o1 => ?_⟩
  unfold eqB at r1
  subst r1
  cases x with
  | true => exact iteT (o1 φ1 H1 _ (.refl _ _) s1 rfl)
  | false => exact iteF ⟨φ1, ρ, S1, re.ext rs e1, s1, o1⟩
/-! and, or, not, as values -/
theorem me_one {op : BoolOp} (h : ME X c W a ea) : ME X c W (.BoolOp op [a] pos) ea := fun s => pe_one (h s)
theorem me_and (ha : ME X c W a ea) (hb : ME X c W (.BoolOp .And (b :: rest) pos) eb) : ME X c W (.BoolOp .And (a :: b :: rest) pos) (eAnd ea eb) := fun s => by
  refine PE.imp (pe_and (ha s) (hb s)) fun σ H Q ⟨φ, ρ, S, re, rs, o⟩ => ?_
  refine ⟨φ, ρ, S, re, rs, Out.bind o fun x S1 φ1 H1 v e1 s1 r1 o1 => ?_⟩
  cases x <;> first
    | exact False.elim o1
    | skip
  rename_i k
  unfold RepV at r1
  refine ⟨k, r1, ?_⟩
  cases k with
  | true => exact iteT ⟨φ1, ρ, S1, re.ext rs e1, s1, o1⟩
  | false => exact iteF (o1 φ1 H1 _ (.refl _ _) s1 (by unfold RepV; rfl))
theorem me_or (ha : ME X c W a ea) (hb : ME X c W (.BoolOp .Or (b :: rest) pos) eb) : ME X c W (.BoolOp .Or (a :: b :: rest) pos) (eOr ea eb) := fun s => by
  refine PE.imp (pe_or (ha s) (hb s)) fun σ H Q ⟨φ, ρ, S, re, rs, o⟩ => ?_
  refine ⟨φ, ρ, S, re, rs, Out.bind o fun x S1 φ1 H1 v e1 s1 r1 o1 => ?_⟩
  cases x <;> first
    | exact False.elim o1
    | skip
  rename_i k
  unfold RepV at r1
  refine ⟨k, r1, ?_⟩
  cases k with
  | true => exact iteT (o1 φ1 H1 _ (.refl _ _) s1 (by unfold RepV; rfl))
  | false => exact iteF ⟨φ1, ρ, S1, re.ext rs e1, s1, o1⟩
theorem me_not (ha : ME X c W a ea) : ME X c W (.UnaryOp .Not a pos) (eNot ea) := fun s => by
  refine PE.imp (pe_not (ha s)) fun σ H Q ⟨φ, ρ, S, re, rs, o⟩ => ?_
  refine ⟨φ, ρ, S, re, rs, Out.bind o fun x S1 φ1 H1 v e1 s1 r1 o1 => ?_⟩
  cases x <;> first
    | exact False.elim o1
    | skip
  rename_i k
  unfold RepV at r1
  exact ⟨k, r1, o1 φ1 H1 _ (.refl _ _) s1 (by unfold RepV; rfl)⟩
theorem me_if {t : Expr} (ht : MT X c W t ta) (ha : ME X c W a ea) (hb : ME X c W b eb) : ME X c W (.IfExp t a b pos) (eIf ta ea eb) := fun s => by
  refine PE.imp (pe_ifExp (ht s) (ha s) (hb s)) fun σ H Q ⟨φ, ρ, S, re, rs, o⟩ => ?_
  refine ⟨φ, ρ, S, re, rs, Out.bind o fun x S1 φ1 H1 v e1 s1 r1 o1 => ?_⟩
  unfold eqB at r1
  subst r1
  cases x with
  | true => exact iteT ⟨φ1, ρ, S1, re.ext rs e1, s1, o1⟩
  | false => exact iteF ⟨φ1, ρ, S1, re.ext rs e1, s1, o1⟩
theorem me_chain {op op' : CmpOp} {g g' : D → D → Sto → Option (D × Sto)} (ho : OpD X c (compareOp op) g) (ho' : OpD X c (compareOp op') g') (ha : ME X c W a ea) (hb : ME X c W b eb) (hd : ME X c W d ed)
    (hm : lastMarks [op, op'] [b, d] = false := by with_unfolding_all rfl) : ME X c W (.Compare a [op, op'] [b, d] pos) (eChain g g' ea eb ed) := fun s => by
  refine PE.imp (pe_chain (ho s.kk) (ho' s.kk) (ha s) (hb s) (hd s) hm) fun σ H Q ⟨φ, ρ, S, re, rs, o⟩ => ?_
  refine ⟨φ, ρ, S, re, rs, Out.bind o fun x S1 φ1 H1 v e1 s1 r1 o1 => ?_⟩
  refine ⟨φ1, ρ, S1, re.ext rs e1, s1, Out.bind o1 fun y S2 φ2 H2 u e2 s2 r2 o2 => ?_⟩
  refine ⟨φ2, S2, x, y, s2, RepV.ext s1.ls e2 _ _ r1, r2, OutO.of (Out.bind o2 fun z S3 φ3 H3 w e3 s3 r3 o3 => ?_)⟩
  cases z <;> first
    | exact False.elim o3
    | skip
  rename_i k
  unfold RepV at r3
  refine ⟨k, r3, ?_⟩
  cases k with
  | true =>
    refine iteT ⟨φ3, ρ, S3, (((re.ext rs e1).ext s1 e2).ext s2 e3), s3, ?_⟩
    exact Out.bind o3 fun w' S4 φ4 H4 u' e4 s4 r4 o4 => ⟨φ4, S4, y, w', s4, RepV.ext s3.ls e4 _ _ (RepV.ext s2.ls e3 _ _ r2), r4, OutO.of o4⟩
  | false => exact iteF (o3 φ3 H3 _ (.refl _ _) s3 (by unfold RepV; rfl))
theorem mt_chain {op op' : CmpOp} {g g' : D → D → Sto → Option (D × Sto)} (ho : OpD X c (compareOp op) g) (ho' : OpD X c (compareOp op') g') (ha : ME X c W a ea) (hb : ME X c W b eb) (hd : ME X c W d ed)
    (hm : lastMarks [op, op'] [b, d] = false := by with_unfolding_all rfl) : MT X c W (.Compare a [op, op'] [b, d] pos) (eTest (eChain g g' ea eb ed)) := fun s => by
  refine PT.imp (pt_chain (ho s.kk) (ho' s.kk) (ha s) (hb s) (hd s) hm) fun σ H Q ⟨φ, ρ, S, re, rs, o⟩ => ?_
  have h2 : TEm c W (eChain g g' ea eb ed) σ H fun x H' => ∃ k, x = .bl k ∧ Q k H' := by
    refine ⟨φ, ρ, S, re, rs, Out.bind o fun x S1 φ1 H1 v e1 s1 r1 o1 => ?_⟩
    cases x <;> first
      | exact False.elim o1
      | (unfold RepV at r1
         exact ⟨_, r1, o1 φ1 H1 _ (.refl _ _) s1 rfl⟩)
  obtain ⟨φ, ρ, S, re, rs, o⟩ := h2
  refine ⟨φ, ρ, S, re, rs, Out.bind o fun x S1 φ1 H1 v e1 s1 r1 o1 => ?_⟩
  refine ⟨φ1, ρ, S1, re.ext rs e1, s1, Out.bind o1 fun y S2 φ2 H2 u e2 s2 r2 o2 => ?_⟩
  refine ⟨φ2, S2, x, y, s2, RepV.ext s1.ls e2 _ _ r1, r2, OutO.of (Out.bind o2 fun z S3 φ3 H3 w e3 s3 r3 o3 => ?_)⟩
  cases z <;> first
    | exact False.elim o3
    | skip
  rename_i k
  unfold RepV at r3
  refine ⟨k, r3, ?_⟩
  cases k with
  | true =>
    refine iteT ⟨φ3, ρ, S3, (((re.ext rs e1).ext s1 e2).ext s2 e3), s3, ?_⟩
    exact Out.bind o3 fun w' S4 φ4 H4 u' e4 s4 r4 o4 => ⟨φ4, S4, y, w', s4, RepV.ext s3.ls e4 _ _ (RepV.ext s2.ls e3 _ _ r2), r4, OutO.of o4⟩
  | false => exact iteF (o3 φ3 H3 _ (.refl _ _) s3 (by unfold RepV; rfl))

/-! arguments, displays -/
theorem ma_nil : MA X c W [] aNil := fun _ => by
  refine PA.imp pa_nil fun σ H Q ⟨φ, ρ, S, re, rs, o⟩ => ?_
  exact o φ H [] (.refl _ _) rs .nil
variable {es : List Expr} {ra : EvA}
theorem ma_cons (ha : ME X c W a ea) (hr : MA X c W es ra) (hs : starEach (a :: es) X.env = (false, eval a X.env) :: starEach es X.env := by rfl) : MA X c W (a :: es) (aCons ea ra) := fun s => by
  refine PA.imp (pa_cons (ha s) (hr s) hs) fun σ H Q ⟨φ, ρ, S, re, rs, o⟩ => ?_
  refine ⟨φ, ρ, S, re, rs, Out.bind o fun x S1 φ1 H1 v e1 s1 r1 o1 => ?_⟩
  refine ⟨φ1, ρ, S1, re.ext rs e1, s1, Out.bind o1 fun xs S2 φ2 H2 vs e2 s2 r2 o2 => ?_⟩
  exact o2 φ2 H2 _ (.refl _ _) s2 (.cons (RepV.ext s1.ls e2 _ _ r1) r2)
theorem small1k {n : Nat} (h : n ≤ 1000) : n ≤ sizeLine := Nat.le_trans h (by decide)
theorem me_tup {x1 : Nat} (h : MA X c W es ra) : ME X c W (.Tuple es x1 pos) (eTup ra) := fun s => by
  refine PE.imp (pe_tup (h s)) fun σ H Q ⟨φ, ρ, S, re, rs, o⟩ => ?_
  refine ⟨φ, ρ, S, re, rs, Out.bind o fun xs S1 φ1 H1 vs e1 s1 r1 o1 => ?_⟩
  unfold dTup at o1
  split at o1
  · rename_i hl
    rw [r1.length] at hl
    refine ⟨small1k hl, fun p hp => ?_⟩
    obtain ⟨s2, e2⟩ := s1.keep (H' := upd H1 p (.tup vs)) (upd_keep hp)
    refine o1 φ1 _ _ e2 s2 ?_
    unfold RepV
    exact ⟨p, vs, rfl, SqT.of upd_same, RepL.ext s1.ls e2 _ _ r1⟩
  · exact o1.elim
theorem me_lst (h : MA X c W es ra) : ME X c W (.List es pos) (eLst ra) := fun s => by
  refine PE.imp (pe_lst (h s)) fun σ H Q ⟨φ, ρ, S, re, rs, o⟩ => ?_
  refine ⟨φ, ρ, S, re, rs, Out.bind o fun xs S1 φ1 H1 vs e1 s1 r1 o1 => ?_⟩
  unfold dLst at o1
  split at o1
  · rename_i hl
    rw [r1.length] at hl
    refine ⟨small1k hl, fun p hp => ?_⟩
    obtain ⟨s2, e2⟩ := s1.push hp r1
    refine o1 _ _ _ e2 s2 ?_
    unfold RepV
    refine ⟨p, rfl, ?_⟩
    rw [← s1.len, List.getElem?_append_right (Nat.le_refl _)]
    simp
  · exact o1.elim
/-! subscripts, calls of what is built in -/
theorem me_ix {g : D → D → Sto → Option (D × Sto)} (ho : IxD X c g) (ha : ME X c W a ea) (hb : ME X c W b eb) (hs : PlainIx b := by exact fun _ _ => rfl) : ME X c W (.Subscript a b pos) (eB g ea eb) := fun s => by
  refine PE.imp (pe_ix (ho s.kk) (ha s) (hb s) hs) fun σ H Q h => ?_
  exact two h fun φ S d e x y H' s1 r1 r2 o => ⟨φ, S, d, e, s1, r1, r2, OutO.of o⟩
variable {x : Str} {id T : String} {g : List D → Sto → Option (D × Sto)} {p : Pos}
theorem me_callB (hc : CallD X c (.builtin id) g) (ha : MA X c W (a :: es) ra) (hm : X.mg x = none) (hg : Gl X x := by rfl) (hv : bootBuiltins x = some (.builtin id) := by decide +kernel) (hn : x ≠ "__name__" := by decide) (hdb : (x == ("__debug__" : Str)) = false := by decide)
    (he : starEach (a :: es) X.env = (false, eval a X.env) :: starEach es X.env := by rfl) (hpl : (backTo pos (starEach es X.env)).any (·.1) = false := by rfl) : ME X c W (.Call (.Name x p) (a :: es) [] pos) (eL g ra) := fun s => by
  refine PE.imp (pe_callB (hc s.kk) hg hm hv (ha s) hn hdb he hpl) fun σ H Q ⟨φ, ρ, S, re, rs, o⟩ => ?_
  exact ⟨φ, ρ, S, re, rs, Out.bind o fun xs S1 φ1 H1 vs e1 s1 r1 o1 => ⟨φ1, S1, xs, s1, r1, OutO.of o1⟩⟩
theorem me_callTy (hc : CallD X c (.type T) g) (ha : MA X c W (a :: es) ra) (hm : X.mg x = none) (hg : Gl X x := by rfl) (hv : bootBuiltins x = some (.type T) := by decide +kernel) (hn : x ≠ "__name__" := by decide) (hdb : (x == ("__debug__" : Str)) = false := by decide)
    (he : starEach (a :: es) X.env = (false, eval a X.env) :: starEach es X.env := by rfl) (hpl : (backTo pos (starEach es X.env)).any (·.1) = false := by rfl) : ME X c W (.Call (.Name x p) (a :: es) [] pos) (eL g ra) := fun s => by
  refine PE.imp (pe_callTy (hc s.kk) hg hm hv (ha s) hn hdb he hpl) fun σ H Q ⟨φ, ρ, S, re, rs, o⟩ => ?_
  exact ⟨φ, ρ, S, re, rs, Out.bind o fun xs S1 φ1 H1 vs e1 s1 r1 o1 => ⟨φ1, S1, xs, s1, r1, OutO.of o1⟩⟩
theorem me_callBf (hc : CallD X c (.builtin id) g) (ha : MA X c W (a :: es) ra) (hm : X.mg x = some (.builtin id)) (hg : Gl X x := by rfl) (hdb : (x == ("__debug__" : Str)) = false := by decide)
    (he : starEach (a :: es) X.env = (false, eval a X.env) :: starEach es X.env := by rfl) (hpl : (backTo pos (starEach es X.env)).any (·.1) = false := by rfl) : ME X c W (.Call (.Name x p) (a :: es) [] pos) (eL g ra) := fun s => by
  refine PE.imp (pe_callBfun (hc s.kk) hg hm (ha s) hdb he hpl) fun σ H Q ⟨φ, ρ, S, re, rs, o⟩ => ?_
  exact ⟨φ, ρ, S, re, rs, Out.bind o fun xs S1 φ1 H1 vs e1 s1 r1 o1 => ⟨φ1, S1, xs, s1, r1, OutO.of o1⟩⟩
end
end MP
end
section
set_option Elab.async false
set_option linter.all false
set_option maxRecDepth 100000
set_option maxHeartbeats 4000000
/-! MP2: statements over data: flows, assignments, if, loops, comprehensions. -/
namespace MP
open PySem PySem.Spec PyProof.Rows L2

inductive Flow where
  | next (ρ : Env) (S : Sto)
  | brk (ρ : Env) (S : Sto)
  | cont (ρ : Env) (S : Sto)
  | ret (d : D) (S : Sto)
  | exc (n : Str) (ns : List Str) (ds : List D) (ρ : Env) (S : Sto)
  | stuck
abbrev Es := Env → Sto → Flow

def OutF (c : Cz) (W : WX) (H : Hp) (φ : List Addr) (f : Flow) (D : Ends) : Prop :=
  match f with
  | .next ρ S => ∀ φ' H' σ', Ext H φ H' φ' → RepS c H' φ' S → RepE c H' φ' ρ σ' → D.nx σ' H'
  | .brk ρ S => ∀ φ' H' σ', Ext H φ H' φ' → RepS c H' φ' S → RepE c H' φ' ρ σ' → D.bk σ' H'
  | .cont ρ S => ∀ φ' H' σ', Ext H φ H' φ' → RepS c H' φ' S → RepE c H' φ' ρ σ' → D.ct σ' H'
  | .ret d S => ∀ φ' H' v, Ext H φ H' φ' → RepS c H' φ' S → RepV c H' φ' d v → D.rt v H'
  | .exc n ns ds ρ S => ∀ φ' H' σ' cls dx vs, Ext H φ H' φ' → RepS c H' φ' S → RepE c H' φ' ρ σ' → c.mg n = some cls → H' dx = some (.xd (ns.zip vs)) → ns.length = vs.length → RepL c H' φ' ds vs → W cls (some dx) σ' H'
  | .stuck => False
theorem OutF.later {c : Cz} {W : WX} {H H1 : Hp} {φ φ1 : List Addr} {f : Flow} {D : Ends} (h : OutF c W H φ f D) (e : Ext H φ H1 φ1) : OutF c W H1 φ1 f D := by
  cases f with
  | next ρ S => intro φ' H' σ' e' s r; exact h φ' H' σ' (e.trans e') s r
  | brk ρ S => intro φ' H' σ' e' s r; exact h φ' H' σ' (e.trans e') s r
  | cont ρ S => intro φ' H' σ' e' s r; exact h φ' H' σ' (e.trans e') s r
  | ret d S => intro φ' H' v e' s r; exact h φ' H' v (e.trans e') s r
  | exc n ns ds ρ S => intro φ' H' σ' cls dx vs e' s r; exact h φ' H' σ' cls dx vs (e.trans e') s r
  | stuck => exact h
theorem OutF.weak {c : Cz} {W : WX} {H : Hp} {φ : List Addr} {f : Flow} {D D' : Ends} (h : OutF c W H φ f D) (hn : ∀ ρ S, f = .next ρ S → ∀ σ H', D.nx σ H' → D'.nx σ H') (hr : ∀ v H', D.rt v H' → D'.rt v H') (hb : ∀ ρ S, f = .brk ρ S → ∀ σ H', D.bk σ H' → D'.bk σ H') (hc : ∀ ρ S, f = .cont ρ S → ∀ σ H', D.ct σ H' → D'.ct σ H') : OutF c W H φ f D' := by
  cases f with
  | next ρ S => intro φ' H' σ' e' s r; exact hn _ _ rfl _ _ (h φ' H' σ' e' s r)
  | brk ρ S => intro φ' H' σ' e' s r; exact hb _ _ rfl _ _ (h φ' H' σ' e' s r)
  | cont ρ S => intro φ' H' σ' e' s r; exact hc _ _ rfl _ _ (h φ' H' σ' e' s r)
  | ret d S => intro φ' H' v e' s r; exact hr _ _ (h φ' H' v e' s r)
  | exc n ns ds ρ S => exact h
  | stuck => exact h

def TSm (c : Cz) (W : WX) (ev : Es) : TS := fun D σ H => ∃ φ ρ S, RepE c H φ ρ σ ∧ RepS c H φ S ∧ OutF c W H φ (ev ρ S) D
def MS (X : Cx) (c : Cz) (W : WX) (st : Stmt) (ev : Es) : Prop := Sh X c W → PS X st (TSm c W ev)
def MSs (X : Cx) (c : Cz) (W : WX) (sts : List Stmt) (ev : Es) : Prop := Sh X c W → PSs X sts (TSm c W ev)
theorem PS.imp {X : Cx} {st : Stmt} {t t' : TS} (h : PS X st t) (k : ∀ D σ H, t' D σ H → t D σ H) : PS X st t' := ⟨fun pins s σ H D I q => h.run pins s σ H D I (k D σ H q)⟩
theorem PSs.imp {X : Cx} {st : List Stmt} {t t' : TS} (h : PSs X st t) (k : ∀ D σ H, t' D σ H → t D σ H) : PSs X st t' := ⟨fun pins s σ H D I q => h.run pins s σ H D I (k D σ H q)⟩

/-! ### evaluators -/
def ofRes {α : Type} (r : Res α) (ρ : Env) (k : α → Sto → Flow) : Flow := match r with
  | .ok a S => k a S
  | .exc n ns ds S => .exc n ns ds ρ S
  | .stuck => .stuck
@[simp] theorem ofRes_ok {α : Type} {a : α} {S : Sto} {ρ : Env} {k : α → Sto → Flow} : ofRes (.ok a S) ρ k = k a S := rfl
@[simp] theorem ofRes_exc {α : Type} {n : Str} {ns : List Str} {ds : List D} {S : Sto} {ρ : Env} {k : α → Sto → Flow} : ofRes (.exc n ns ds S) ρ k = .exc n ns ds ρ S := rfl
@[simp] theorem ofRes_stuck {α : Type} {ρ : Env} {k : α → Sto → Flow} : ofRes (.stuck : Res α) ρ k = .stuck := rfl
def Flow.andThen (f : Flow) (b : Es) : Flow := match f with
  | .next ρ S => b ρ S
  | .brk ρ S => .brk ρ S
  | .cont ρ S => .cont ρ S
  | .ret d S => .ret d S
  | .exc n ns ds ρ S => .exc n ns ds ρ S
  | .stuck => .stuck
@[simp] theorem andThen_next {ρ : Env} {S : Sto} {b : Es} : (Flow.next ρ S).andThen b = b ρ S := rfl
@[simp] theorem andThen_ret {d : D} {S : Sto} {b : Es} : (Flow.ret d S).andThen b = .ret d S := rfl
@[simp] theorem andThen_brk {ρ : Env} {S : Sto} {b : Es} : (Flow.brk ρ S).andThen b = .brk ρ S := rfl
@[simp] theorem andThen_cont {ρ : Env} {S : Sto} {b : Es} : (Flow.cont ρ S).andThen b = .cont ρ S := rfl
@[simp] theorem andThen_exc {n : Str} {ns : List Str} {ds : List D} {ρ : Env} {S : Sto} {b : Es} : (Flow.exc n ns ds ρ S).andThen b = .exc n ns ds ρ S := rfl
@[simp] theorem andThen_stuck {b : Es} : Flow.stuck.andThen b = .stuck := rfl
def sSkip : Es := fun ρ S => .next ρ S
def sSeq (a b : Es) : Es := fun ρ S => (a ρ S).andThen b
def sAsg (i : Nat) (e : Ev) : Es := fun ρ S => ofRes (e ρ S) ρ fun d S1 => .next (ρ.set i (some d)) S1
def sBind (b : D → Env → Option Env) (e : Ev) : Es := fun ρ S => ofRes (e ρ S) ρ fun d S1 => match b d ρ with
  | some ρ' => .next ρ' S1
  | none => .stuck
def sPar (i j : Nat) (a b : Ev) : Es := fun ρ S => ofRes (a ρ S) ρ fun d S1 => ofRes (b ρ S1) ρ fun e S2 => .next ((ρ.set i (some d)).set j (some e)) S2
def sSub (g : D → D → D → Sto → Option Sto) (o i e : Ev) : Es := fun ρ S => ofRes (e ρ S) ρ fun v S1 => ofRes (o ρ S1) ρ fun a S2 => ofRes (i ρ S2) ρ fun k S3 => match g a k v S3 with
  | some S4 => .next ρ S4
  | none => .stuck
def sAug (i : Nat) (g : D → D → Sto → Option (D × Sto)) (e : Ev) : Es := fun ρ S => match ρ[i]? with
  | some (some x) => ofRes (e ρ S) ρ fun y S1 => match g x y S1 with
    | some (z, S2) => .next (ρ.set i (some z)) S2
    | none => .stuck
  | _ => .stuck
def sExpr (e : Ev) : Es := fun ρ S => ofRes (e ρ S) ρ fun _ S1 => .next ρ S1
def sRet (e : Ev) : Es := fun ρ S => ofRes (e ρ S) ρ fun d S1 => .ret d S1
def sRetN : Es := fun _ S => .ret .non S
def sIf (t : EvB) (a b : Es) : Es := fun ρ S => ofRes (t ρ S) ρ fun k S1 => if k = true then a ρ S1 else b ρ S1
def sBrk : Es := fun ρ S => .brk ρ S
def sCont : Es := fun ρ S => .cont ρ S

/-- what a loop walks: its items, and what must stand of the store -/
structure Src where
  xs : List D
  st : Sto → Prop
open Classical in
noncomputable def forLoop (st : Sto → Prop) (b : D → Env → Option Env) (body : Es) : List D → Env → Sto → Flow
  | [], ρ, S => if st S then .next ρ S else .stuck
  | x :: xs, ρ, S => if st S then (match b x ρ with
    | none => .stuck
    | some ρ1 => match body ρ1 S with
      | .next ρ2 S2 => forLoop st b body xs ρ2 S2
      | .cont ρ2 S2 => forLoop st b body xs ρ2 S2
      | .brk ρ2 S2 => .next ρ2 S2
      | .ret d S2 => .ret d S2
      | .exc n ns ds ρ2 S2 => .exc n ns ds ρ2 S2
      | .stuck => .stuck) else .stuck
noncomputable def sFor (src : Env → Sto → Res Src) (b : D → Env → Option Env) (body : Es) : Es := fun ρ S => ofRes (src ρ S) ρ fun z S1 => forLoop z.st b body z.xs ρ S1
def whileLoop (t : EvB) (body : Es) : Nat → Env → Sto → Flow
  | 0, _, _ => .stuck
  | n + 1, ρ, S => ofRes (t ρ S) ρ fun k S1 => if k = true then (match body ρ S1 with
      | .next ρ2 S2 => whileLoop t body n ρ2 S2
      | .cont ρ2 S2 => whileLoop t body n ρ2 S2
      | .brk ρ2 S2 => .next ρ2 S2
      | .ret d S2 => .ret d S2
      | .exc n ns ds ρ2 S2 => .exc n ns ds ρ2 S2
      | .stuck => .stuck) else .next ρ S1
@[irreducible] noncomputable def fuel : Nat := 2 ^ 4000000
noncomputable def sWhile (t : EvB) (body : Es) : Es := fun ρ S => whileLoop t body fuel ρ S

open Classical in
noncomputable def lcLoop (st : Sto → Prop) (b : D → Env → Option Env) (t : EvB) (e : Ev) (ρ : Env) : List D → List D → Sto → Res (List D)
  | [], acc, S => if st S then .ok acc S else .stuck
  | x :: xs, acc, S => if st S then (match b x ρ with
    | none => .stuck
    | some ρ1 => match t ρ1 S with
      | .ok k S1 => if k = true then (match e ρ1 S1 with
          | .ok d S2 => if acc.length < 1000000 then lcLoop st b t e ρ xs (acc ++ [d]) S2 else .stuck
          | .exc .. => .stuck
          | .stuck => .stuck) else lcLoop st b t e ρ xs acc S1
      | .exc .. => .stuck
      | .stuck => .stuck) else .stuck
def wipeE (ρ : Env) : List Nat → Env
  | [] => ρ
  | v :: vs => (wipeE ρ vs).set v none
noncomputable def eLc (src : Env → Sto → Res Src) (b : D → Env → Option Env) (t : EvB) (e : Ev) (vs : List Nat) : Ev := fun ρ S => (src ρ S).bind fun z S1 => (lcLoop z.st b t e (wipeE ρ vs) z.xs [] S1).bind fun acc S2 => .ok (.lst S2.length) (S2 ++ [acc])
def tTrue : EvB := fun _ S => .ok true S

section
variable {X : Cx} {c : Cz} {W : WX} {a b d : Expr} {ea eb ed : Ev} {pos : Pos} {st : Stmt} {rest : List Stmt} {u v : Es} {sa sb : List Stmt}
theorem mss_nil : MSs X c W [] sSkip := fun _ => by
  refine PSs.imp pss_nil fun D σ H ⟨φ, ρ, S, re, rs, o⟩ => ?_
  exact o φ H σ (.refl _ _) rs re
theorem mss_one (h : MS X c W st u) : MSs X c W [st] u := fun s => pss_one (h s)
theorem seq_out {D : Ends} {H : Hp} {φ : List Addr} {f : Flow} (o : OutF c W H φ (f.andThen v) D) : OutF c W H φ f { D with nx := TSm c W v D } := by
  cases f with
  | next ρ S =>
    intro φ' H' σ' e s r
    exact ⟨φ', ρ, S, r, s, OutF.later o e⟩
  | brk ρ S => exact o
  | cont ρ S => exact o
  | ret d S => exact o
  | exc n ns ds ρ S => exact o
  | stuck => exact o
theorem mss_cons (h : MS X c W st u) (r : MSs X c W rest v) : MSs X c W (st :: rest) (sSeq u v) := fun s => by
  refine PSs.imp (pss_cons (h s) (r s)) fun D σ H ⟨φ, ρ, S, re, rs, o⟩ => ?_
  exact ⟨φ, ρ, S, re, rs, seq_out o⟩
theorem ms_pass : MS X c W (.Pass pos) sSkip := fun _ => by
  refine PS.imp ps_pass fun D σ H ⟨φ, ρ, S, re, rs, o⟩ => ?_
  exact o φ H σ (.refl _ _) rs re
theorem ms_break : MS X c W (.Break pos) sBrk := fun _ => by
  refine PS.imp ps_break fun D σ H ⟨φ, ρ, S, re, rs, o⟩ => ?_
  exact o φ H σ (.refl _ _) rs re
theorem ms_continue : MS X c W (.Continue pos) sCont := fun _ => by
  refine PS.imp ps_continue fun D σ H ⟨φ, ρ, S, re, rs, o⟩ => ?_
  exact o φ H σ (.refl _ _) rs re
/-- an outcome, then a flow -/
theorem flow_out {α β : Type} {rel : Hp → List Addr → α → β → Prop} {r : Res α} {ρ : Env} {k : α → Sto → Flow} {D : Ends} {σ : St} {H : Hp} {φ : List Addr} {R : β → Hp → Prop} {S : Sto} (re : RepE c H φ ρ σ) (rs : RepS c H φ S) (o : OutF c W H φ (ofRes r ρ k) D)
    (h : ∀ x S' φ' H' y, Ext H φ H' φ' → RepS c H' φ' S' → rel H' φ' x y → RepE c H' φ' ρ σ → OutF c W H' φ' (k x S') D → R y H') : Out c H φ rel r R fun cls d H' => W cls d σ H' := by
  cases r with
  | ok x S' => intro φ' H' y e s q; exact h x S' φ' H' y e s q (re.ext rs e) (OutF.later o e)
  | exc n ns ds S' => intro φ' H' cls dx vs e s m1 m2 m3 m4; exact o φ' H' σ cls dx vs e s (re.ext rs e) m1 m2 m3 m4
  | stuck => exact o
theorem ms_expr (h : ME X c W a ea) (hs : swapsWith a none pos.line X.env = pure false := by rfl) : MS X c W (.Expr a pos) (sExpr ea) := fun s => by
  refine PS.imp (ps_expr (h s) hs) fun D σ H ⟨φ, ρ, S, re, rs, o⟩ => ?_
  exact ⟨φ, ρ, S, re, rs, flow_out re rs o fun x S' φ' H' y e s' q re' o' => o' φ' H' σ (.refl _ _) s' re'⟩
theorem ms_ret (h : ME X c W a ea) : MS X c W (.Return (some a) pos) (sRet ea) := fun s => by
  refine PS.imp (ps_ret (h s)) fun D σ H ⟨φ, ρ, S, re, rs, o⟩ => ?_
  exact ⟨φ, ρ, S, re, rs, flow_out re rs o fun x S' φ' H' y e s' q re' o' => o' φ' H' y (.refl _ _) s' q⟩
theorem ms_retN : MS X c W (.Return none pos) sRetN := fun _ => by
  refine PS.imp ps_retN fun D σ H ⟨φ, ρ, S, re, rs, o⟩ => ?_
  exact o φ H .non (.refl _ _) rs (by unfold RepV; rfl)
theorem ms_if {t : Expr} {et : EvB} (ht : MT X c W t et) (ha : MSs X c W sa u) (hb : MSs X c W sb v) : MS X c W (.If t sa sb pos) (sIf et u v) := fun s => by
  refine PS.imp (ps_if (ht s) (ha s) (hb s)) fun D σ H ⟨φ, ρ, S, re, rs, o⟩ => ?_
  refine ⟨φ, ρ, S, re, rs, flow_out re rs o fun x S' φ' H' y e s' q re' o' => ?_⟩
  unfold eqB at q
  subst q
  cases x with
  | true => exact iteT ⟨φ', ρ, S', re', s', o'⟩
  | false => exact iteF ⟨φ', ρ, S', re', s', o'⟩
theorem ms_set (i : Nat) {x : Str} {pos' : Pos} (h : ME X c W a ea) (hi : X.N[i]? = some x := by rfl) (hx : Loc X.env.scope x := by first | exact Or.inl rfl | exact Or.inr rfl) (hs : swapsWith a (some (.Name x pos')) pos.line X.env = pure false := by rfl) (hf : X.fn x = true ∨ X.env.scope.names.lookup x = some .local := by first | exact .inl rfl | exact .inr rfl) :
    MS X c W (.Assign [.Name x pos'] a pos) (sAsg i ea) := fun s => by
  refine PS.imp (ps_set s.nd hi hx (h s) hs hf) fun D σ H ⟨φ, ρ, S, re, rs, o⟩ => ?_
  exact ⟨φ, ρ, S, re, rs, flow_out re rs o fun x S' φ' H' y e s' q re' o' => o' φ' H' _ (.refl _ _) s' (re'.set q)⟩

/-! targets -/
/-- the slots vs alone may change -/
def SameBut (vs : List Nat) (σ σ' : St) : Prop := σ'.length = σ.length ∧ ∀ j, j ∉ vs → σ'[j]? = σ[j]?
theorem SameBut.refl (vs : List Nat) (σ : St) : SameBut vs σ σ := ⟨rfl, fun _ _ => rfl⟩
theorem SameBut.trans {vs ws : List Nat} {σ σ' σ'' : St} (a : SameBut vs σ σ') (b : SameBut ws σ' σ'') : SameBut (vs ++ ws) σ σ'' :=
  ⟨b.1.trans a.1, fun j hj => (b.2 j fun m => hj (List.mem_append_right _ m)).trans (a.2 j fun m => hj (List.mem_append_left _ m))⟩
def TGm (c : Cz) (vs : List Nat) (g : D → Env → Option Env) : TG := fun v σ H Q => ∃ φ ρ S d ρ', RepE c H φ ρ σ ∧ RepS c H φ S ∧ RepV c H φ d v ∧ g d ρ = some ρ' ∧ ∀ σ', RepE c H φ ρ' σ' → SameBut vs σ σ' → Q σ' H
def TGsm (c : Cz) (vs : List Nat) (g : List D → Env → Option Env) : TGs := fun us σ H Q => ∃ φ ρ S ds ρ', RepE c H φ ρ σ ∧ RepS c H φ S ∧ RepL c H φ ds us ∧ g ds ρ = some ρ' ∧ ∀ σ', RepE c H φ ρ' σ' → SameBut vs σ σ' → Q σ' H
def MG (X : Cx) (c : Cz) (tg : Expr) (vs : List Nat) (g : D → Env → Option Env) : Prop := c.K = X.K → X.N.Nodup → PG X tg (TGm c vs g)
def MGs (X : Cx) (c : Cz) (tgs : List Expr) (vs : List Nat) (g : List D → Env → Option Env) : Prop := c.K = X.K → X.N.Nodup → PGs X tgs (TGsm c vs g)
theorem PG.imp {e : Expr} {t t' : TG} (h : PG X e t) (k : ∀ v σ H Q, t' v σ H Q → t v σ H Q) : PG X e t' := ⟨fun pins s σ H v u Q I r q => h.run pins s σ H v u Q I r (k v σ H Q q)⟩
theorem PGs.imp {e : List Expr} {t t' : TGs} (h : PGs X e t) (k : ∀ v σ H Q, t' v σ H Q → t v σ H Q) : PGs X e t' := ⟨fun pins s σ H v u Q I r q => h.run pins s σ H v u Q I r (k v σ H Q q)⟩
def bName (i : Nat) : D → Env → Option Env := fun d ρ => some (ρ.set i (some d))
def bNil : List D → Env → Option Env := fun ds ρ => match ds with
  | [] => some ρ
  | _ => none
def bCons (g : D → Env → Option Env) (r : List D → Env → Option Env) : List D → Env → Option Env := fun ds ρ => match ds with
  | d :: ds => (g d ρ).bind (r ds)
  | [] => none
def bTup (n : Nat) (r : List D → Env → Option Env) : D → Env → Option Env := fun d ρ => match d with
  | .tup xs => if xs.length = n then r xs ρ else none
  | _ => none
theorem mg_name (i : Nat) {x : Str} (hi : X.N[i]? = some x := by rfl) (hx : Loc X.env.scope x := by first | exact Or.inl rfl | exact Or.inr rfl) (hf : X.fn x = true ∨ X.env.scope.names.lookup x = some .local := by first | exact .inl rfl | exact .inr rfl) : MG X c (.Name x pos) [i] (bName i) := fun _ nd => by
  refine PG.imp (pg_name nd hi hx hf) fun v σ H Q ⟨φ, ρ, S, d, ρ', re, rs, r, e, q⟩ => ?_
  cases e
  refine q _ (re.set r) ⟨by simp, fun j hj => ?_⟩
  rw [List.getElem?_set_ne (fun z => hj (by simp [z]))]
theorem mgs_nil : MGs X c [] [] bNil := fun _ _ => by
  refine PGs.imp pgs_nil fun us σ H Q ⟨φ, ρ, S, ds, ρ', re, rs, r, e, q⟩ => ?_
  cases ds with
  | nil =>
    unfold RepL at r
    cases e
    exact ⟨r, q _ re (.refl _ _)⟩
  | cons d ds => cases e
theorem mgs_cons {e : Expr} {es : List Expr} {vs ws : List Nat} {g : D → Env → Option Env} {r : List D → Env → Option Env} (h1 : MG X c e vs g) (h2 : MGs X c es ws r)
    (hs : (assignEach (e :: es) X.env).map (·.2) = assign e X.env :: (assignEach es X.env).map (·.2) := by rfl) : MGs X c (e :: es) (vs ++ ws) (bCons g r) := fun k nd => by
  refine PGs.imp (pgs_cons (h1 k nd) (h2 k nd) hs) fun us σ H Q ⟨φ, ρ, S, ds, ρ', re, rs, rl, e, q⟩ => ?_
  cases ds with
  | nil => cases e
  | cons d ds =>
    unfold RepL at rl
    obtain ⟨v, vr, rfl, r1, r2⟩ := rl
    have e' : (g d ρ).bind (r ds) = some ρ' := e
    cases eg : g d ρ with
    | none => rw [eg] at e'; cases e'
    | some ρ1 =>
      rw [eg] at e'
      exact ⟨v, vr, rfl, φ, ρ, S, d, ρ1, re, rs, r1, eg, fun σ1 re1 sb1 => ⟨φ, ρ1, S, ds, ρ', re1, rs, r2, e', fun σ2 re2 sb2 => q σ2 re2 (sb1.trans sb2)⟩⟩
theorem mg_tup {es : List Expr} {k n : Nat} {vs : List Nat} {r : List D → Env → Option Env} (h : MGs X c es vs r) (hc : X.calm = true := by rfl)
    (hn : (assignEach es X.env).length = n := by rfl) (hst : (assignEach es X.env).findIdx? (·.1) = none := by rfl) : MG X c (.Tuple es k pos) vs (bTup n r) := fun kk nd => by
  refine PG.imp (pg_tup hc (h kk nd) hn hst) fun v σ H Q ⟨φ, ρ, S, d, ρ', re, rs, rv, e, q⟩ => ?_
  cases d <;> first
    | (cases e; done)
    | skip
  rename_i xs
  unfold RepV at rv
  obtain ⟨a, ys, rfl, h1, h2⟩ := rv
  have e' : (if xs.length = n then r xs ρ else none) = some ρ' := e
  split at e'
  · rename_i hl
    rw [kk] at h1
    exact ⟨a, ys, rfl, h1, by rw [← h2.length]; exact hl, φ, ρ, S, xs, ρ', re, rs, h2, e', q⟩
  · cases e'
theorem ms_bind {tg : Expr} {vs : List Nat} {g : D → Env → Option Env} (h : ME X c W a ea) (hg : MG X c tg vs g) (hs : swapsWithSole [tg] a pos.line X.env = pure false := by rfl) (hw : swappedStores [tg] a X.env = pure none := by rfl)
    (h1 : (assignEach [tg] X.env).map (·.2) = [assign tg X.env] := by rfl) : MS X c W (.Assign [tg] a pos) (sBind g ea) := fun s => by
  refine PS.imp (ps_asg (h s) (hg s.kk s.nd) hs hw h1) fun D σ H ⟨φ, ρ, S, re, rs, o⟩ => ?_
  refine ⟨φ, ρ, S, re, rs, flow_out re rs o fun x S' φ' H' y e s' q re' o' => ?_⟩
  cases eg : g x ρ with
  | none => rw [eg] at o'; exact o'.elim
  | some ρ' =>
    rw [eg] at o'
    exact ⟨φ', ρ, S', x, ρ', re', s', q, eg, fun σ' re2 _ => o' φ' H' σ' (.refl _ _) s' re2⟩
theorem ms_par (i j : Nat) {x y : Str} {px py pt : Pos} {kt k2 : Nat} {pt2 : Pos} (ha : ME X c W a ea) (hb : ME X c W b eb) (hc : X.calm = true := by rfl) (hi : X.N[i]? = some x := by rfl) (hj : X.N[j]? = some y := by rfl) (hij : i ≠ j := by decide)
    (hx : X.env.scope.names.lookup x = some .local := by rfl) (hy : X.env.scope.names.lookup y = some .local := by rfl) (hsa : starEach [a, b] X.env = (false, eval a X.env) :: starEach [b] X.env := by rfl) (hsb : starEach [b] X.env = (false, eval b X.env) :: starEach [] X.env := by rfl)
    (hw : swappedStores [.Tuple [.Name x px, .Name y py] kt pt] (.Tuple [a, b] k2 pt2) X.env = pure (some [x, y]) := by rfl)
    (hs : swapsWithSole [.Tuple [.Name x px, .Name y py] kt pt] (.Tuple [a, b] k2 pt2) pos.line X.env = pure false := by rfl) :
    MS X c W (.Assign [.Tuple [.Name x px, .Name y py] kt pt] (.Tuple [a, b] k2 pt2) pos) (sPar i j ea eb) := fun s => by
  refine PS.imp (ps_par hc s.nd hi hj hij hx hy (pa_cons (ha s) (pa_cons (hb s) pa_nil hsb) hsa) hw hs) fun D σ H ⟨φ, ρ, S, re, rs, o⟩ => ?_
  refine ⟨φ, ρ, S, re, rs, flow_out re rs o fun x S1 φ1 H1 y e1 s1 r1 re1 o1 => ?_⟩
  refine ⟨φ1, ρ, S1, re1, s1, flow_out re1 s1 o1 fun x2 S2 φ2 H2 y2 e2 s2 r2 re2 o2 => ?_⟩
  refine ⟨y, y2, rfl, o2 φ2 H2 _ (.refl _ _) s2 ((re2.set (RepV.ext s1.ls e2 _ _ r1)).set r2)⟩
/-! o[i] = e -/
def SetD (X : Cx) (c : Cz) (g : D → D → D → Sto → Option Sto) : Prop :=
  c.K = X.K → PSet X fun o i v H Q => ∃ φ S a k d, RepS c H φ S ∧ RepV c H φ a o ∧ RepV c H φ k i ∧ RepV c H φ d v ∧ ∃ S', g a k d S = some S' ∧ ∀ H', Ext H φ H' φ → RepS c H' φ S' → Q H'
theorem ms_sub {o i : Expr} {eo ei : Ev} {g : D → D → D → Sto → Option Sto} {tp : Pos} (hs : SetD X c g) (ha : ME X c W a ea) (ho : ME X c W o eo) (hi : ME X c W i ei)
    (hsw : swapsWithSole [.Subscript o i tp] a pos.line X.env = pure false := by rfl) (hw : swappedStores [.Subscript o i tp] a X.env = pure none := by rfl) (h1 : (assignEach [.Subscript o i tp] X.env).map (·.2) = [assign (.Subscript o i tp) X.env] := by rfl)
    (hb : ∀ v, assign (.Subscript o i tp) X.env v = (do
      let ov ← holding [v] (eval o X.env)
      let iv ← holding [v, ov] (eval i X.env)
      standAt tp
      holding [v, ov, iv] (setItem ov iv v)
      release [v, ov, iv] []) := by intro _; rfl) : MS X c W (.Assign [.Subscript o i tp] a pos) (sSub g eo ei ea) := fun s => by
  refine PS.imp (ps_asg (ha s) (pg_sub (ho s) (hi s) (hs s.kk) hb) hsw hw h1) fun D σ H ⟨φ, ρ, S, re, rs, q⟩ => ?_
  refine ⟨φ, ρ, S, re, rs, flow_out re rs q fun x1 S1 φ1 H1 y1 e1 s1 r1 re1 o1 => ?_⟩
  refine ⟨φ1, ρ, S1, re1, s1, flow_out re1 s1 o1 fun x2 S2 φ2 H2 y2 e2 s2 r2 re2 o2 => ?_⟩
  refine ⟨φ2, ρ, S2, re2, s2, flow_out re2 s2 o2 fun x3 S3 φ3 H3 y3 e3 s3 r3 re3 o3 => ?_⟩
  cases eg : g x2 x3 x1 S3 with
  | none => rw [eg] at o3; exact o3.elim
  | some S4 =>
    rw [eg] at o3
    exact ⟨φ3, S3, x2, x3, x1, s3, RepV.ext s2.ls e3 _ _ r2, r3, RepV.ext s1.ls (e2.trans e3) _ _ r1, S4, eg, fun H' e' s' => o3 φ3 H' σ e' s' (re3.ext s3 e')⟩
/-! name op= e -/
def IpD (X : Cx) (c : Cz) (op : Operator) (g : D → D → Sto → Option (D × Sto)) : Prop :=
  c.K = X.K → PIp X op fun x y H Q => ∃ φ S d e, RepS c H φ S ∧ RepV c H φ d x ∧ RepV c H φ e y ∧ OutO c H φ (RepV c) (g d e S) Q
theorem ms_aug (i : Nat) {x : Str} {op : Operator} {g : D → D → Sto → Option (D × Sto)} {pos' : Pos} (hp : IpD X c op g) (ha : ME X c W a ea) (hi : X.N[i]? = some x := by rfl) (hx : Loc X.env.scope x := by first | exact Or.inl rfl | exact Or.inr rfl) (hf : X.fn x = true ∨ X.env.scope.names.lookup x = some .local := by first | exact .inl rfl | exact .inr rfl) :
    MS X c W (.AugAssign (.Name x pos') op a pos) (sAug i g ea) := fun s => by
  refine PS.imp (ps_aug s.nd hi hx (ha s) (hp s.kk) hf) fun D σ H ⟨φ, ρ, S, re, rs, o⟩ => ?_
  unfold sAug at o
  split at o
  · rename_i dd q
    obtain ⟨v, h1, h2⟩ := re.2 i dd q
    refine ⟨v, h1, φ, ρ, S, re, rs, flow_out re rs o fun x1 S1 φ1 H1 y1 e1 s1 r1 re1 o1 => ?_⟩
    refine ⟨φ1, S1, dd, x1, s1, RepV.ext rs.ls e1 _ _ h2, r1, ?_⟩
    cases eg : g dd x1 S1 with
    | none => rw [eg] at o1; exact o1.elim
    | some p =>
      obtain ⟨z, S2⟩ := p
      rw [eg] at o1
      intro φ2 H2 y2 e2 s2 r2
      exact o1 φ2 H2 _ e2 s2 ((re1.ext s1 e2).set r2)
  · exact o.elim

/-! ### loops -/
def ItOk (c : Cz) (z : Src) (J : It) (H : Hp) (φ : List Addr) : Prop :=
  ∀ (H2 : Hp) (φ2 : List Addr) (S2 : Sto) (i : Nat), Ext H φ H2 φ2 → RepS c H2 φ2 S2 → z.st S2 →
    (∀ x, z.xs[i]? = some x → J.go i H2 ∧ ∀ v H3, J.yld i H2 v H3 → Ext H2 φ2 H3 φ2 ∧ RepS c H3 φ2 S2 ∧ RepV c H3 φ2 x v) ∧ (z.xs.length ≤ i → J.stop i H2)
def TIm (c : Cz) (W : WX) (ev : Env → Sto → Res Src) : TI := fun σ H R => ∃ φ ρ S, RepE c H φ ρ σ ∧ RepS c H φ S ∧ Out c H φ (fun H' φ' z J => ItOk c z J H' φ') (ev ρ S) R (fun cls d H' => W cls d σ H')
def MI (X : Cx) (c : Cz) (W : WX) (tg iter : Expr) (ev : Env → Sto → Res Src) : Prop := Sh X c W → PI X tg iter (TIm c W ev)
theorem PI.imp {tg e : Expr} {t t' : TI} (h : PI X tg e t) (k : ∀ σ H Q, t' σ H Q → t σ H Q) : PI X tg e t' := ⟨fun pins s σ H Q I q => h.run pins s σ H Q I (k σ H Q q)⟩
theorem ms_for {tg iter : Expr} {vs : List Nat} {g : D → Env → Option Env} {src : Env → Sto → Res Src} {body : List Stmt} {eb : Es} (hi : MI X c W tg iter src) (hg : MG X c tg vs g) (hb : MSs X c W body eb) (hc : X.calm = true := by rfl)
    (hs : ∀ x, foldedSetIterable iter X.env x = pure x := by intro _; rfl) : MS X c W (.For tg iter body [] pos) (sFor src g eb) := fun s => by
  refine PS.imp (ps_for s.ow hc (hi s) (hg s.kk s.nd) (hb s) hs) fun D σ H ⟨φ, ρ, S, re, rs, o⟩ => ?_
  refine ⟨φ, ρ, S, re, rs, flow_out re rs o fun z S1 φ1 H1 J e1 s1 it re1 o1 => ?_⟩
  refine ⟨fun i m σ H2 => m = z.xs.length - i ∧ i ≤ z.xs.length ∧ ∃ φ2 ρ2 S2, Ext H1 φ1 H2 φ2 ∧ RepE c H2 φ2 ρ2 σ ∧ RepS c H2 φ2 S2 ∧ OutF c W H2 φ2 (forLoop z.st g eb (z.xs.drop i) ρ2 S2) D,
    ⟨z.xs.length, by simp, Nat.zero_le _, φ1, ρ, S1, .refl _ _, re1, s1, o1⟩, ?_⟩
  rintro i m σ2 H2 ⟨rfl, hle, φ2, ρ2, S2, e2, re2, s2, o2⟩
  by_cases hlt : i < z.xs.length
  · refine .inr ?_
    have hx : z.xs[i]? = some z.xs[i] := List.getElem?_eq_getElem hlt
    rw [List.drop_eq_getElem_cons hlt] at o2
    unfold forLoop at o2
    split at o2
    · rename_i hst
      obtain ⟨go, yl⟩ := (it H2 φ2 S2 i e2 s2 hst).1 _ hx
      split at o2
      · exact o2.elim
      · rename_i ρ3 eg
        refine ⟨go, fun σ' H' => i + 1 ≤ z.xs.length ∧ ∃ φ2 ρ2 S2, Ext H1 φ1 H' φ2 ∧ RepE c H' φ2 ρ2 σ' ∧ RepS c H' φ2 S2 ∧ OutF c W H' φ2 (forLoop z.st g eb (z.xs.drop (i + 1)) ρ2 S2) D,
          fun σ' H' n => ⟨z.xs.length - (i + 1), by omega, rfl, n⟩, fun v H3 y => ?_⟩
        obtain ⟨e3, s3, r3⟩ := yl v H3 y
        refine ⟨φ2, ρ2, S2, _, ρ3, re2.ext s2 e3, s3, r3, eg, fun σ3 re3 _ => ⟨φ2, ρ3, S2, re3, s3, ?_⟩⟩
        have o3 := OutF.later o2 e3
        have e13 := e2.trans e3
        revert o3
        cases eb ρ3 S2 with
        | next ρ4 S4 => intro o3 φ4 H4 σ4 e4 s4 re4; exact ⟨hlt, φ4, ρ4, S4, e13.trans e4, re4, s4, OutF.later o3 e4⟩
        | cont ρ4 S4 => intro o3 φ4 H4 σ4 e4 s4 re4; exact ⟨hlt, φ4, ρ4, S4, e13.trans e4, re4, s4, OutF.later o3 e4⟩
        | brk ρ4 S4 => intro o3; exact o3
        | ret d S4 => intro o3; exact o3
        | exc n ns ds ρ4 S4 => intro o3; exact o3
        | stuck => intro o3; exact o3
    · exact o2.elim
  · refine .inl ?_
    have : z.xs.drop i = [] := List.drop_eq_nil_of_le (by omega)
    rw [this] at o2
    unfold forLoop at o2
    split at o2
    · rename_i hst
      exact ⟨(it H2 φ2 S2 i e2 s2 hst).2 (by omega), o2 φ2 H2 σ2 (.refl _ _) s2 re2⟩
    · exact o2.elim
theorem ms_while {t : Expr} {et : EvB} {body : List Stmt} {eb : Es} (ht : MT X c W t et) (hb : MSs X c W body eb) : MS X c W (.While t body [] pos) (sWhile et eb) := fun s => by
  refine PS.imp (ps_while s.ow (ht s) (hb s)) fun D σ H ⟨φ, ρ, S, re, rs, o⟩ => ?_
  refine ⟨fun m σ H2 => ∃ φ2 ρ2 S2, RepE c H2 φ2 ρ2 σ ∧ RepS c H2 φ2 S2 ∧ OutF c W H2 φ2 (whileLoop et eb m ρ2 S2) D, ⟨fuel, φ, ρ, S, re, rs, o⟩, ?_⟩
  rintro m σ2 H2 ⟨φ2, ρ2, S2, re2, s2, o2⟩
  cases m with
  | zero => exact o2.elim
  | succ m =>
    unfold whileLoop at o2
    refine ⟨φ2, ρ2, S2, re2, s2, flow_out re2 s2 o2 fun k S3 φ3 H3 y e3 s3 q re3 o3 => ?_⟩
    unfold eqB at q
    subst q
    cases k with
    | true =>
      refine iteT ⟨fun σ' H' => ∃ φ2 ρ2 S2, RepE c H' φ2 ρ2 σ' ∧ RepS c H' φ2 S2 ∧ OutF c W H' φ2 (whileLoop et eb m ρ2 S2) D, fun σ' H' n => ⟨m, Nat.lt_succ_self m, n⟩, φ3, ρ2, S3, re3, s3, ?_⟩
      rw [if_pos rfl] at o3
      revert o3
      cases eb ρ2 S3 with
      | next ρ4 S4 => intro o3 φ4 H4 σ4 e4 s4 re4; exact ⟨φ4, ρ4, S4, re4, s4, OutF.later o3 e4⟩
      | cont ρ4 S4 => intro o3 φ4 H4 σ4 e4 s4 re4; exact ⟨φ4, ρ4, S4, re4, s4, OutF.later o3 e4⟩
      | brk ρ4 S4 => intro o3; exact o3
      | ret d S4 => intro o3; exact o3
      | exc n ns ds ρ4 S4 => intro o3; exact o3
      | stuck => intro o3; exact o3
    | false => exact iteF (o3 φ3 H3 σ2 (.refl _ _) s3 re3)

/-! what is walked -/
def srcOf (d : D) (S : Sto) : Option Src := match d with
  | .lst l => (S[l]?).map fun xs => ⟨xs, fun S' => S'[l]? = some xs⟩
  | .tup xs => some ⟨xs, fun _ => True⟩
  | .frl xs => some ⟨xs, fun _ => True⟩
  | _ => none
def iSeq (a : Ev) : Env → Sto → Res Src := fun ρ S => (a ρ S).bind fun d S1 => match srcOf d S1 with
  | some z => .ok z S1
  | none => .stuck
end
end MP
end
section
set_option Elab.async false
set_option linter.all false
set_option maxRecDepth 100000
set_option maxHeartbeats 4000000
/-! MP3: what is walked, comprehensions, calls of defs, defs, errors raised and caught. -/
namespace MP
open PySem PySem.Spec PyProof.Rows L2

section
variable {X : Cx} {c : Cz} {W : WX} {a b d : Expr} {ea eb ed : Ev} {pos : Pos} {st : Stmt} {rest : List Stmt} {u v : Es} {sa sb : List Stmt}
variable {tg : Expr}
/-- a list or a tuple, walked -/
def iEither (K : PySem.W.Frag) (tl : TE) : TI := fun σ H R => tl σ H fun x H1 => ∃ a, x = .ref a ∧ ((∃ xs, SqL K H1 a xs ∧ R (Itl K a) H1) ∨ (∃ xs, SqT K H1 a xs ∧ R (Itt K a) H1))
theorem pi_either {l : Expr} {tl : TE} (hl : PE X l tl) : PI X tg l (iEither X.K tl) := by
  constructor
  intro pins s σ H R I h
  apply thn (hl.run pins s σ H _ I h)
  rintro v s1 ⟨x, H1, I1, r1, a, rfl, q⟩
  cases r1
  have fresh : ∀ b ∈ [s1.heap.objs.size], FpOk X pins H1 b := fun b hb => by
    have eb : b = s1.heap.objs.size := by simpa using hb
    subst eb
    exact I1.fpOk (Nat.le_refl _) (I1.hok.fresh (Nat.le_refl _))
  rcases q with ⟨xs, hq, q⟩ | ⟨xs, hq, q⟩
  · obtain ⟨its, rv, pl, hz⟩ := I1.list hq
    apply wpAny_pyIter_list pl.isList
    exact ⟨s1.heap.objs.size, [s1.heap.objs.size], _, _, H1, rfl, I1.kept (t' := s1.toks) fun b o z => Heap.get?_push_of_some _ z, turn_list a _, ⟨_, Heap.get?_push_size _ rfl, rfl, rfl⟩, fresh, q⟩
  · obtain ⟨its, rv, pl, hz⟩ := I1.tuple hq
    apply wpAny_pyIter_tuple (show s1.heap.IsTuple a its.toArray from pl)
    exact ⟨s1.heap.objs.size, [s1.heap.objs.size], _, _, H1, rfl, I1.kept (t' := s1.toks) fun b o z => Heap.get?_push_of_some _ z, turn_tuple a _, ⟨_, Heap.get?_push_size _ rfl, rfl, rfl⟩, fresh, q⟩
theorem itl_ok {z : Src} {a : Addr} {H : Hp} {φ : List Addr} (h : ∀ H2 φ2 S2, Ext H φ H2 φ2 → RepS c H2 φ2 S2 → z.st S2 → ∃ us, SqL c.K H2 a us ∧ RepL c H2 φ2 z.xs us) : ItOk c z (Itl c.K a) H φ := by
  intro H2 φ2 S2 i e s hst
  obtain ⟨us, sq, rl⟩ := h H2 φ2 S2 e s hst
  refine ⟨fun x hx => ?_, fun hl => ⟨us, sq, by rw [← rl.length]; exact hl⟩⟩
  obtain ⟨v, hv, rv⟩ := rl.get hx
  refine ⟨⟨us, v, sq, hv⟩, fun v' H3 ⟨e3, y⟩ => ?_⟩
  subst e3
  have := y us sq
  rw [hv] at this
  cases this
  exact ⟨.refl _ _, s, rv⟩
theorem itt_ok {z : Src} {a : Addr} {H : Hp} {φ : List Addr} (h : ∀ H2 φ2 S2, Ext H φ H2 φ2 → RepS c H2 φ2 S2 → z.st S2 → ∃ us, SqT c.K H2 a us ∧ RepL c H2 φ2 z.xs us) : ItOk c z (Itt c.K a) H φ := by
  intro H2 φ2 S2 i e s hst
  obtain ⟨us, sq, rl⟩ := h H2 φ2 S2 e s hst
  refine ⟨fun x hx => ?_, fun hl => ⟨us, sq, by rw [← rl.length]; exact hl⟩⟩
  obtain ⟨v, hv, rv⟩ := rl.get hx
  refine ⟨⟨us, v, sq, hv⟩, fun v' H3 ⟨e3, y⟩ => ?_⟩
  subst e3
  have := y us sq
  rw [hv] at this
  cases this
  exact ⟨.refl _ _, s, rv⟩
/-- what stands behind a value that is walked -/
theorem src_at {d : D} {v : V} {z : Src} {H : Hp} {φ : List Addr} {S : Sto} (rs : RepS c H φ S) (r : RepV c H φ d v) (e : srcOf d S = some z) :
    ∃ a, v = .ref a ∧ ((∃ us, SqL c.K H a us ∧ RepL c H φ z.xs us ∧ (∀ H2 φ2 S2, Ext H φ H2 φ2 → RepS c H2 φ2 S2 → z.st S2 → ∃ us, SqL c.K H2 a us ∧ RepL c H2 φ2 z.xs us)) ∨
      (∃ us, SqT c.K H a us ∧ RepL c H φ z.xs us ∧ (∀ H2 φ2 S2, Ext H φ H2 φ2 → RepS c H2 φ2 S2 → z.st S2 → ∃ us, SqT c.K H2 a us ∧ RepL c H2 φ2 z.xs us))) := by
  cases d <;> first
    | (cases e; done)
    | skip
  · -- a tuple
    rename_i xs
    cases e
    unfold RepV at r
    obtain ⟨a, us, rfl, sq, rl⟩ := r
    exact ⟨a, rfl, .inr ⟨us, sq, rl, fun H2 φ2 S2 e s _ => ⟨us, SqT.ext rs.ls e sq, RepL.ext rs.ls e _ _ rl⟩⟩⟩
  · rename_i l
    unfold RepV at r
    obtain ⟨a, rfl, hl⟩ := r
    have e : (S[l]?).map (fun xs => (⟨xs, fun S' => S'[l]? = some xs⟩ : Src)) = some z := e
    cases q : S[l]? with
    | none => rw [q] at e; cases e
    | some xs =>
      rw [q] at e
      cases e
      obtain ⟨a', us, h1, h2, h3⟩ := rs.at_ l xs q
      rw [hl] at h1
      cases h1
      refine ⟨a, rfl, .inl ⟨us, SqL.of h2, h3, fun H2 φ2 S2 e s hst => ?_⟩⟩
      obtain ⟨a2, us2, g1, g2, g3⟩ := s.at_ l xs hst
      rw [pre_get e.pre hl] at g1
      cases g1
      exact ⟨us2, SqL.of g2, g3⟩
  · rename_i xs
    cases e
    unfold RepV at r
    obtain ⟨a, us, rfl, sq, rl⟩ := r
    exact ⟨a, rfl, .inl ⟨us, sq.sq, rl, fun H2 φ2 S2 e s _ => ⟨us, (Frz.ext rs.ls e sq).sq, RepL.ext rs.ls e _ _ rl⟩⟩⟩
theorem mi_seq (h : ME X c W a ea) : MI X c W tg a (iSeq ea) := fun s => by
  refine PI.imp (pi_either (h s)) fun σ H R ⟨φ, ρ, S, re, rs, o⟩ => ?_
  refine ⟨φ, ρ, S, re, rs, Out.bind o fun x S1 φ1 H1 v e1 s1 r1 o1 => ?_⟩
  cases eq : srcOf x S1 with
  | none => rw [eq] at o1; exact o1.elim
  | some z =>
    rw [eq] at o1
    obtain ⟨a', rfl, q⟩ := src_at s1 r1 eq
    rw [← s.kk]
    refine ⟨a', rfl, ?_⟩
    rcases q with ⟨us, sq, rl, k⟩ | ⟨us, sq, rl, k⟩
    · exact .inl ⟨us, sq, o1 φ1 H1 _ (.refl _ _) s1 (itl_ok k)⟩
    · exact .inr ⟨us, sq, o1 φ1 H1 _ (.refl _ _) s1 (itt_ok k)⟩
/-- range(n), range(a, b) -/
def rngL (lo : Int) (n : Nat) : List D := (List.range n).map fun (k : Nat) => D.int (lo + (k : Int))
theorem rngL_get {lo : Int} {n i : Nat} {x : D} (h : (rngL lo n)[i]? = some x) : i < n ∧ x = .int (lo + i) := by
  unfold rngL at h
  rw [List.getElem?_map] at h
  by_cases hi : i < n
  · rw [List.getElem?_range hi] at h
    cases h
    exact ⟨hi, rfl⟩
  · rw [List.getElem?_eq_none (by simpa using hi)] at h
    cases h
theorem rngL_length (lo : Int) (n : Nat) : (rngL lo n).length = n := by unfold rngL; simp
def rng1 (ds : List D) (S : Sto) : Res Src := match ds with
  | [.int j] => if j < 2 ^ 62 ∧ -(2 ^ 62) ≤ j then .ok ⟨rngL 0 j.toNat, fun _ => True⟩ S else .stuck
  | _ => .stuck
def rng2 (ds : List D) (S : Sto) : Res Src := match ds with
  | [.int i, .int j] => if (i < 2 ^ 62 ∧ -(2 ^ 62) ≤ i) ∧ j < 2 ^ 62 ∧ -(2 ^ 62) ≤ j then .ok ⟨rngL i (j - i).toNat, fun _ => True⟩ S else .stuck
  | _ => .stuck
def iRange (f : List D → Sto → Res Src) (ra : EvA) : Env → Sto → Res Src := fun ρ S => (ra ρ S).bind f
theorem itr_ok {lo : Int} {n : Nat} {H : Hp} {φ : List Addr} : ItOk c ⟨rngL lo n, fun _ => True⟩ (Itr lo n) H φ := by
  intro H2 φ2 S2 i e s _
  refine ⟨fun x hx => ?_, fun hl => by rw [rngL_length] at hl; exact hl⟩
  obtain ⟨hi, rfl⟩ := rngL_get hx
  refine ⟨hi, fun v H3 ⟨e3, ev⟩ => ?_⟩
  subst e3 ev
  exact ⟨.refl _ _, s, by unfold RepV; rfl⟩
variable {es : List Expr} {ra : EvA}
theorem mi_range1 {p : Pos} (h : MA X c W [a] ra) (hm : X.mg "range" = none) (hg : Gl X "range" := by rfl) (hs : starEach [a] X.env = [(false, eval a X.env)] := by rfl) : MI X c W tg (.Call (.Name "range" p) [a] [] pos) (iRange rng1 ra) := fun s => by
  refine PI.imp (pi_range1 hg hm (h s) hs) fun σ H R ⟨φ, ρ, S, re, rs, o⟩ => ?_
  refine ⟨φ, ρ, S, re, rs, Out.bind o fun x S1 φ1 H1 v e1 s1 r1 o1 => ?_⟩
  unfold rng1 at o1
  split at o1
  · rename_i j
    split at o1
    · rename_i hj
      unfold RepL at r1
      obtain ⟨v1, vr, rfl, r2, r3⟩ := r1
      unfold RepV at r2
      unfold RepL at r3
      subst r2 r3
      exact ⟨j, rfl, hj.2, hj.1, o1 φ1 H1 _ (.refl _ _) s1 itr_ok⟩
    · exact o1.elim
  · exact o1.elim
theorem mi_range2 {p : Pos} (h : MA X c W [a, b] ra) (hm : X.mg "range" = none) (hg : Gl X "range" := by rfl) (hs : starEach [a, b] X.env = [(false, eval a X.env), (false, eval b X.env)] := by rfl) (hs2 : starEach [b] X.env = [(false, eval b X.env)] := by rfl) :
    MI X c W tg (.Call (.Name "range" p) [a, b] [] pos) (iRange rng2 ra) := fun s => by
  refine PI.imp (pi_range2 hg hm (h s) hs hs2) fun σ H R ⟨φ, ρ, S, re, rs, o⟩ => ?_
  refine ⟨φ, ρ, S, re, rs, Out.bind o fun x S1 φ1 H1 v e1 s1 r1 o1 => ?_⟩
  unfold rng2 at o1
  split at o1
  · rename_i i j
    split at o1
    · rename_i hj
      unfold RepL at r1
      obtain ⟨v1, vr, rfl, r2, r3⟩ := r1
      unfold RepL at r3
      obtain ⟨v2, vr2, rfl, r4, r5⟩ := r3
      unfold RepV at r2 r4
      unfold RepL at r5
      subst r2 r4 r5
      exact ⟨i, j, rfl, ⟨hj.1.2, hj.1.1, hj.2.2, hj.2.1⟩, o1 φ1 H1 _ (.refl _ _) s1 itr_ok⟩
    · exact o1.elim
  · exact o1.elim
/-- zip(a, b) of two lists, of two tuples -/
def zipD : List D → List D → List D
  | x :: xs, y :: ys => .tup [x, y] :: zipD xs ys
  | _, _ => []
theorem zipD_length : ∀ xs ys : List D, (zipD xs ys).length = min xs.length ys.length
  | [], ys => by unfold zipD; simp
  | x :: xs, [] => by unfold zipD; simp
  | x :: xs, y :: ys => by unfold zipD; simp [zipD_length xs ys, Nat.succ_min_succ]
theorem zipD_get : ∀ {xs ys : List D} {i : Nat} {t : D}, (zipD xs ys)[i]? = some t → ∃ x y, t = .tup [x, y] ∧ xs[i]? = some x ∧ ys[i]? = some y
  | [], ys, i, t, h => by unfold zipD at h; simp at h
  | x :: xs, [], i, t, h => by unfold zipD at h; simp at h
  | x :: xs, y :: ys, 0, t, h => by unfold zipD at h; simp at h; exact ⟨x, y, h.symm, rfl, rfl⟩
  | x :: xs, y :: ys, i + 1, t, h => by
    unfold zipD at h
    obtain ⟨x', y', e, h1, h2⟩ := zipD_get (xs := xs) (ys := ys) (i := i) (t := t) (by simpa using h)
    exact ⟨x', y', e, by simpa using h1, by simpa using h2⟩
def isTup : D → Bool
  | .tup _ => true
  | _ => false
def zipS (ds : List D) (S : Sto) : Res Src := match ds with
  | [x, y] => match srcOf x S, srcOf y S with
    | some z1, some z2 => if isTup x = isTup y then .ok ⟨zipD z1.xs z2.xs, fun S' => z1.st S' ∧ z2.st S'⟩ S else .stuck
    | _, _ => .stuck
  | _ => .stuck
theorem src_tup {d : D} {v : V} {z : Src} {H : Hp} {φ : List Addr} {S : Sto} (rs : RepS c H φ S) (r : RepV c H φ d v) (e : srcOf d S = some z) :
    ∃ a, v = .ref a ∧ ((isTup d = false ∧ ∃ us, SqL c.K H a us ∧ RepL c H φ z.xs us ∧ (∀ H2 φ2 S2, Ext H φ H2 φ2 → RepS c H2 φ2 S2 → z.st S2 → ∃ us, SqL c.K H2 a us ∧ RepL c H2 φ2 z.xs us)) ∨
      (isTup d = true ∧ ∃ us, SqT c.K H a us ∧ RepL c H φ z.xs us ∧ (∀ H2 φ2 S2, Ext H φ H2 φ2 → RepS c H2 φ2 S2 → z.st S2 → ∃ us, SqT c.K H2 a us ∧ RepL c H2 φ2 z.xs us))) := by
  cases d <;> first
    | (cases e; done)
    | skip
  · rename_i xs
    cases e
    unfold RepV at r
    obtain ⟨a, us, rfl, sq, rl⟩ := r
    exact ⟨a, rfl, .inr ⟨rfl, us, sq, rl, fun H2 φ2 S2 e s _ => ⟨us, SqT.ext rs.ls e sq, RepL.ext rs.ls e _ _ rl⟩⟩⟩
  · rename_i l
    unfold RepV at r
    obtain ⟨a, rfl, hl⟩ := r
    have e : (S[l]?).map (fun xs => (⟨xs, fun S' => S'[l]? = some xs⟩ : Src)) = some z := e
    cases q : S[l]? with
    | none => rw [q] at e; cases e
    | some xs =>
      rw [q] at e
      cases e
      obtain ⟨a', us, h1, h2, h3⟩ := rs.at_ l xs q
      rw [hl] at h1
      cases h1
      refine ⟨a, rfl, .inl ⟨rfl, us, SqL.of h2, h3, fun H2 φ2 S2 e s hst => ?_⟩⟩
      obtain ⟨a2, us2, g1, g2, g3⟩ := s.at_ l xs hst
      rw [pre_get e.pre hl] at g1
      cases g1
      exact ⟨us2, SqL.of g2, g3⟩
  · rename_i xs
    cases e
    unfold RepV at r
    obtain ⟨a, us, rfl, sq, rl⟩ := r
    exact ⟨a, rfl, .inl ⟨rfl, us, sq.sq, rl, fun H2 φ2 S2 e s _ => ⟨us, (Frz.ext rs.ls e sq).sq, RepL.ext rs.ls e _ _ rl⟩⟩⟩
theorem zip_turn {z1 z2 : Src} {H2 H3 : Hp} {φ2 : List Addr} {S2 : Sto} {us ws : List V} {x : D} {v : V} {i : Nat} (s : RepS c H2 φ2 S2) (r1 : RepL c H2 φ2 z1.xs us) (r2 : RepL c H2 φ2 z2.xs ws)
    (hx : (zipD z1.xs z2.xs)[i]? = some x) (y : ∃ T p q, v = .ref T ∧ H2 T = none ∧ H3 = upd H2 T (.tup [p, q]) ∧ us[i]? = some p ∧ ws[i]? = some q) : Ext H2 φ2 H3 φ2 ∧ RepS c H3 φ2 S2 ∧ RepV c H3 φ2 x v := by
  obtain ⟨T, p, q, rfl, hT, rfl, h1, h2⟩ := y
  obtain ⟨d, e, rfl, g1, g2⟩ := zipD_get hx
  obtain ⟨p', k1, k2⟩ := r1.get g1
  obtain ⟨q', k3, k4⟩ := r2.get g2
  rw [h1] at k1
  rw [h2] at k3
  cases k1
  cases k3
  obtain ⟨s2, e2⟩ := s.keep (H' := upd H2 T (.tup [p, q])) (upd_keep hT)
  refine ⟨e2, s2, ?_⟩
  unfold RepV
  exact ⟨T, [p, q], rfl, SqT.of upd_same, .cons (RepV.ext s.ls e2 _ _ k2) (.cons (RepV.ext s.ls e2 _ _ k4) .nil)⟩
theorem mi_zip {p tpos : Pos} {elts : List Expr} {kk : Nat} (h : MA X c W [a, b] ra) (hm : X.mg "zip" = none) (hg : Gl X "zip" := by rfl)
    (hs : starEach [a, b] X.env = (false, eval a X.env) :: starEach [b] X.env := by rfl) (hpl : (backTo pos (starEach [b] X.env)).any (·.1) = false := by rfl) : MI X c W (.Tuple elts kk tpos) (.Call (.Name "zip" p) [a, b] [] pos) (iRange zipS ra) := fun s => by
  refine PI.imp (RZ.pi_zipA hg hm (h s) hs hpl) fun σ H R ⟨φ, ρ, S, re, rs, o⟩ => ?_
  refine ⟨φ, ρ, S, re, rs, Out.bind o fun x S1 φ1 H1 v e1 s1 r1 o1 => ?_⟩
  unfold zipS at o1
  split at o1
  · rename_i x y
    unfold RepL at r1
    obtain ⟨v1, vr, rfl, r2, r3⟩ := r1
    unfold RepL at r3
    obtain ⟨v2, vr2, rfl, r4, r5⟩ := r3
    unfold RepL at r5
    subst r5
    split at o1
    · rename_i z1 z2 q1 q2
      split at o1
      · rename_i hab
        obtain ⟨a1, rfl, k1⟩ := src_tup s1 r2 q1
        obtain ⟨a2, rfl, k2⟩ := src_tup s1 r4 q2
        rw [← s.kk]
        rcases k1 with ⟨b1, us, sq1, rl1, k1⟩ | ⟨b1, us, sq1, rl1, k1⟩
        · rcases k2 with ⟨b2, ws, sq2, rl2, k2⟩ | ⟨b2, ws, sq2, rl2, k2⟩
          · refine ⟨a1, a2, us, ws, rfl, .inl ⟨sq1, sq2, o1 φ1 H1 _ (.refl _ _) s1 ?_⟩⟩
            intro H2 φ2 S2 i e s ⟨st1, st2⟩
            obtain ⟨us, sq1, rl1⟩ := k1 H2 φ2 S2 e s st1
            obtain ⟨ws, sq2, rl2⟩ := k2 H2 φ2 S2 e s st2
            refine ⟨fun x hx => ?_, fun hl => ⟨us, ws, sq1, sq2, ?_⟩⟩
            · obtain ⟨d, e, rfl, g1, g2⟩ := zipD_get hx
              obtain ⟨p', k1, _⟩ := rl1.get g1
              obtain ⟨q', k3, _⟩ := rl2.get g2
              refine ⟨⟨us, ws, p', q', sq1, sq2, k1, k3⟩, fun v H3 ⟨T, p, q, ev, hT, eH, y1, y2⟩ => ?_⟩
              exact zip_turn s rl1 rl2 hx ⟨T, p, q, ev, hT, eH, y1 us sq1, y2 ws sq2⟩
            · have hl : (zipD z1.xs z2.xs).length ≤ i := hl
              rw [zipD_length] at hl
              have l1 := rl1.length
              have l2 := rl2.length
              omega
          · rw [b1, b2] at hab
            cases hab
        · rcases k2 with ⟨b2, ws, sq2, rl2, k2⟩ | ⟨b2, ws, sq2, rl2, k2⟩
          · rw [b1, b2] at hab
            cases hab
          · refine ⟨a1, a2, us, ws, rfl, .inr ⟨sq1, sq2, o1 φ1 H1 _ (.refl _ _) s1 ?_⟩⟩
            intro H2 φ2 S2 i e s ⟨st1, st2⟩
            obtain ⟨us, sq1, rl1⟩ := k1 H2 φ2 S2 e s st1
            obtain ⟨ws, sq2, rl2⟩ := k2 H2 φ2 S2 e s st2
            refine ⟨fun x hx => ?_, fun hl => ⟨us, ws, sq1, sq2, ?_⟩⟩
            · obtain ⟨d, e, rfl, g1, g2⟩ := zipD_get hx
              obtain ⟨p', k1, _⟩ := rl1.get g1
              obtain ⟨q', k3, _⟩ := rl2.get g2
              refine ⟨⟨us, ws, p', q', sq1, sq2, k1, k3⟩, fun v H3 ⟨T, p, q, ev, hT, eH, y1, y2⟩ => ?_⟩
              exact zip_turn s rl1 rl2 hx ⟨T, p, q, ev, hT, eH, y1 us sq1, y2 ws sq2⟩
            · have hl : (zipD z1.xs z2.xs).length ≤ i := hl
              rw [zipD_length] at hl
              have l1 := rl1.length
              have l2 := rl2.length
              omega
      · exact o1.elim
    · exact o1.elim
  · exact o1.elim

/-! ### comprehensions -/
mutual
theorem RepV.aside {H : Hp} {φ : List Addr} {p : Addr} {us ws : List V} (hp : H p = some (.lst us)) : ∀ (d : D) (v : V), RepV c H φ d v → RepV c (upd H p (.lst ws)) φ d v
  | .non, _, h => by unfold RepV at h ⊢; exact h
  | .bl _, _, h => by unfold RepV at h ⊢; exact h
  | .int _, _, h => by unfold RepV at h ⊢; exact h
  | .str _, _, h => by unfold RepV at h ⊢; exact h
  | .tup ds, _, h => by
    unfold RepV at h ⊢
    obtain ⟨a, xs, e1, e2, e3⟩ := h
    refine ⟨a, xs, e1, ?_, RepL.aside hp ds xs e3⟩
    rcases e2 with (e2 | ⟨o, e2⟩) | e2
    · exact .inl (.inl (by rw [upd_ne (ne_of e2 hp (fun q => by cases q))]; exact e2))
    · exact .inl (.inr ⟨o, by rw [upd_ne (ne_of e2 hp (fun q => by cases q))]; exact e2⟩)
    · exact .inr e2
  | .lst l, _, h => by unfold RepV at h ⊢; exact h
  | .frl ds, _, h => by
    unfold RepV at h ⊢
    obtain ⟨a, xs, e1, e2, e3⟩ := h
    refine ⟨a, xs, e1, ?_, RepL.aside hp ds xs e3⟩
    rcases e2 with ⟨o, e2⟩ | e2
    · exact .inl ⟨o, by rw [upd_ne (ne_of e2 hp (fun q => by cases q))]; exact e2⟩
    · exact .inr e2
  | .exn n ns ds, _, h => by
    unfold RepV at h ⊢
    obtain ⟨a, cls, d, vs, e1, e2, e3, e4, e5, e6⟩ := h
    exact ⟨a, cls, d, vs, e1, e2, e3, by rw [upd_ne (ne_of e4 hp (fun q => by cases q))]; exact e4, e5, RepL.aside hp ds vs e6⟩
theorem RepL.aside {H : Hp} {φ : List Addr} {p : Addr} {us ws : List V} (hp : H p = some (.lst us)) : ∀ (ds : List D) (vs : List V), RepL c H φ ds vs → RepL c (upd H p (.lst ws)) φ ds vs
  | [], _, h => by unfold RepL at h ⊢; exact h
  | d :: ds, _, h => by
    unfold RepL at h ⊢
    obtain ⟨v, vr, e1, e2, e3⟩ := h
    exact ⟨v, vr, e1, RepV.aside hp d v e2, RepL.aside hp ds vr e3⟩
end
theorem RepS.aside {H : Hp} {φ : List Addr} {S : Sto} {p : Addr} {us ws : List V} (r : RepS c H φ S) (hp : H p = some (.lst us)) (np : p ∉ φ) : RepS c (upd H p (.lst ws)) φ S := by
  refine ⟨r.nd, r.len, fun l xs h => ?_⟩
  obtain ⟨a, vs, h1, h2, h3⟩ := r.at_ l xs h
  exact ⟨a, vs, h1, by rw [upd_ne (fun q => np (by rw [← q]; exact List.mem_of_getElem? h1))]; exact h2, RepL.aside hp _ _ h3⟩
theorem RepS.adopt {H : Hp} {φ : List Addr} {S : Sto} {p : Addr} {us : List V} {xs : List D} (r : RepS c H φ S) (hp : H p = some (.lst us)) (np : p ∉ φ) (hx : RepL c H φ xs us) : RepS c H (φ ++ [p]) (S ++ [xs]) := by
  have e : Ext H φ H (φ ++ [p]) → True := fun _ => trivial
  have up : ∀ (ds : List D) (vs : List V), RepL c H φ ds vs → RepL c H (φ ++ [p]) ds vs := fun ds vs h => grow ds vs h
  refine ⟨?_, by simp [r.len], fun l ys h => ?_⟩
  · rw [List.nodup_append]
    refine ⟨r.nd, by simp, fun a ha b hb => ?_⟩
    simp at hb
    subst hb
    exact fun q => np (q ▸ ha)
  · by_cases hl : l < S.length
    · rw [List.getElem?_append_left hl] at h
      obtain ⟨a, vs, h1, h2, h3⟩ := r.at_ l ys h
      exact ⟨a, vs, pre_get (List.prefix_append _ _) h1, h2, up _ _ h3⟩
    · have hl' : l < (S ++ [xs]).length := (List.getElem?_eq_some_iff.mp h).1
      have el : l = S.length := by simp at hl'; omega
      subst el
      rw [List.getElem?_append_right (Nat.le_refl _)] at h
      simp at h
      subst h
      refine ⟨p, us, ?_, hp, up _ _ hx⟩
      rw [← r.len, List.getElem?_append_right (Nat.le_refl _)]
      simp
where
  grow : ∀ (ds : List D) (vs : List V), RepL c H φ ds vs → RepL c H (φ ++ [p]) ds vs
    | [], _, h => by unfold RepL at h ⊢; exact h
    | d :: ds, _, h => by
      unfold RepL at h ⊢
      obtain ⟨v, vr, e1, e2, e3⟩ := h
      exact ⟨v, vr, e1, growV d v e2, grow ds vr e3⟩
  growV : ∀ (d : D) (v : V), RepV c H φ d v → RepV c H (φ ++ [p]) d v
    | .non, _, h => by unfold RepV at h ⊢; exact h
    | .bl _, _, h => by unfold RepV at h ⊢; exact h
    | .int _, _, h => by unfold RepV at h ⊢; exact h
    | .str _, _, h => by unfold RepV at h ⊢; exact h
    | .tup ds, _, h => by
      unfold RepV at h ⊢
      obtain ⟨a, xs, e1, e2, e3⟩ := h
      exact ⟨a, xs, e1, e2, grow ds xs e3⟩
    | .lst l, _, h => by
      unfold RepV at h ⊢
      obtain ⟨a, e1, e2⟩ := h
      exact ⟨a, e1, pre_get (List.prefix_append _ _) e2⟩
    | .frl ds, _, h => by
      unfold RepV at h ⊢
      obtain ⟨a, xs, e1, e2, e3⟩ := h
      exact ⟨a, xs, e1, e2, grow ds xs e3⟩
    | .exn n ns ds, _, h => by
      unfold RepV at h ⊢
      obtain ⟨a, cls, d, vs, e1, e2, e3, e4, e5, e6⟩ := h
      exact ⟨a, cls, d, vs, e1, e2, e3, e4, e5, grow ds vs e6⟩
theorem Ext.stays {H H' : Hp} {φ φ' : List Addr} {p : Addr} {o : HO} (e : Ext H φ H' φ') (hp : H p = some o) (np : p ∉ φ) : H' p = some o ∧ p ∉ φ' :=
  ⟨e.keep p o hp np, fun m => by
    have := e.new p m np
    rw [hp] at this
    cases this⟩
theorem wipe_at : ∀ (ws : List Nat) (σ : St) (j : Nat), (j ∈ ws → (wipe σ ws)[j]? = if j < σ.length then some none else none) ∧ (j ∉ ws → (wipe σ ws)[j]? = σ[j]?)
  | [], σ, j => ⟨fun h => by simp at h, fun _ => by unfold wipe; rfl⟩
  | w :: ws, σ, j => by
    obtain ⟨h1, h2⟩ := wipe_at ws σ j
    constructor
    · intro hm
      unfold wipe
      by_cases hj : w = j
      · subst hj
        by_cases hw : w < σ.length
        · rw [List.getElem?_set_self (by rw [wipe_length]; exact hw), if_pos hw]
        · rw [List.getElem?_eq_none (by simp [wipe_length]; omega), if_neg hw]
      · rw [List.getElem?_set_ne hj]
        rcases List.mem_cons.mp hm with e | e
        · exact absurd e.symm hj
        · exact h1 e
    · intro hm
      unfold wipe
      rw [List.getElem?_set_ne (fun q => hm (by simp [q]))]
      exact h2 (fun q => hm (List.mem_cons_of_mem _ q))
theorem wipe_eq : ∀ (ws : List Nat) {σ σ' : St}, σ'.length = σ.length → (∀ j, j ∉ ws → σ'[j]? = σ[j]?) → wipe σ' ws = wipe σ ws
  | [], σ, σ', hl, h => by
    unfold wipe
    exact List.ext_getElem? fun j => h j (by simp)
  | w :: ws, σ, σ', hl, h => by
    unfold wipe
    have key : ∀ (τ τ' : St), τ'.length = τ.length → (∀ j, j ≠ w → τ'[j]? = τ[j]?) → τ'.set w none = τ.set w none := fun τ τ' hl h => by
      refine List.ext_getElem? fun j => ?_
      by_cases hj : w = j
      · subst hj
        by_cases hw : w < τ.length
        · rw [List.getElem?_set_self hw, List.getElem?_set_self (by omega)]
        · rw [List.getElem?_eq_none (by simp; omega), List.getElem?_eq_none (by simp; omega)]
      · rw [List.getElem?_set_ne hj, List.getElem?_set_ne hj]
        exact h j (Ne.symm hj)
    refine key _ _ (by rw [wipe_length, wipe_length]; exact hl) fun j hj => ?_
    have w2 := wipe_at ws σ' j
    have w1 := wipe_at ws σ j
    by_cases hm : j ∈ ws
    · rw [w2.1 hm, w1.1 hm, hl]
    · rw [w2.2 hm, w1.2 hm]
      exact h j (by simp [hj, hm])
theorem RepE.wipe {H : Hp} {φ : List Addr} {ρ : Env} {σ : St} (h : RepE c H φ ρ σ) : ∀ ws : List Nat, RepE c H φ (wipeE ρ ws) (L2.wipe σ ws)
  | [] => h
  | w :: ws => (RepE.wipe h ws).unset
def MTs (X : Cx) (c : Cz) (W : WX) (ifs : List Expr) (ev : EvB) : Prop := Sh X c W → PTs X ifs (TTm c W ev)
theorem PTs.imp {es : List Expr} {t t' : TT} (h : PTs X es t) (k : ∀ σ H Q, t' σ H Q → t σ H Q) : PTs X es t' := ⟨fun pins s σ H Q I q => h.run pins s σ H Q I (k σ H Q q)⟩
theorem mts_nil : MTs X c W [] tTrue := fun _ => by
  refine PTs.imp pts_nil fun σ H Q ⟨φ, ρ, S, re, rs, o⟩ => ?_
  exact o φ H true (.refl _ _) rs rfl
theorem mts_one {t : Expr} {et : EvB} (h : MT X c W t et) : MTs X c W [t] et := fun s => pts_one (h s)
abbrev W0 : WX := fun _ _ _ _ => False
theorem Sh.blk (s : Sh X c W) (s0 : Shared) (H : Hp) (scope : Scope) (cenv : PySem.Env) (fp : List Addr) : Sh (X.blk s0 H scope cenv fp) c W0 := ⟨s.kk, s.mm, takes0, PassesOwn.never, s.nd⟩
/-- the reading of a comprehension -/
theorem lc_read {σ : St} {H : Hp} {Q : VK} {src : Env → Sto → Res Src} {g : D → Env → Option Env} {vs own : List Nat} {et : EvB} {ee : Ev} (hv : ∀ j ∈ vs, j ∈ own)
    (h : TEm c W (eLc src g et ee own) σ H Q) : tLc (TIm c W src) (TGm c vs g) (TTm c W0 et) (TEm c W0 ee) own σ H Q := by
  obtain ⟨φ, ρ, S, re, rs, o⟩ := h
  refine ⟨φ, ρ, S, re, rs, Out.bind o fun z S1 φ1 H1 J e1 s1 it o1 => ?_⟩
  have re1 := re.ext rs e1
  intro D' hD
  have npD : D' ∉ φ1 := fun m => by
    obtain ⟨_, q⟩ := s1.isl m
    rw [hD] at q
    cases q
  have e0 : Ext H1 φ1 (upd H1 D' (.lst [])) φ1 := (s1.keep (upd_keep hD)).2
  refine ⟨fun i m H2 => m = z.xs.length - i ∧ i ≤ z.xs.length ∧ ∃ φ2 S2 acc us, Ext H1 φ1 H2 φ2 ∧ RepS c H2 φ2 S2 ∧ H2 D' = some (.lst us) ∧ D' ∉ φ2 ∧ RepL c H2 φ2 acc us ∧
      Out c H1 φ1 (RepV c) ((lcLoop z.st g et ee (wipeE ρ own) (z.xs.drop i) acc S2).bind fun acc S2 => .ok (.lst S2.length) (S2 ++ [acc])) Q (fun cls d H' => W cls d σ H'),
    ⟨z.xs.length, by simp, Nat.zero_le _, φ1, S1, [], [], e0, (s1.keep (upd_keep hD)).1, upd_same, npD, .nil, o1⟩, ?_⟩
  rintro i m H2 ⟨rfl, hle, φ2, S2, acc, us, e2, s2, h2D, n2D, ra, o2⟩
  by_cases hlt : i < z.xs.length
  · refine .inr ?_
    have hx : z.xs[i]? = some z.xs[i] := List.getElem?_eq_getElem hlt
    rw [List.drop_eq_getElem_cons hlt] at o2
    unfold lcLoop at o2
    split at o2
    · rename_i hst
      obtain ⟨go, yl⟩ := (it H2 φ2 S2 i e2 s2 hst).1 _ hx
      split at o2
      · exact o2.elim
      · rename_i ρ3 eg
        refine ⟨go, fun H' => i + 1 ≤ z.xs.length ∧ ∃ φ2 S2 acc us, Ext H1 φ1 H' φ2 ∧ RepS c H' φ2 S2 ∧ H' D' = some (.lst us) ∧ D' ∉ φ2 ∧ RepL c H' φ2 acc us ∧
            Out c H1 φ1 (RepV c) ((lcLoop z.st g et ee (wipeE ρ own) (z.xs.drop (i + 1)) acc S2).bind fun acc S2 => .ok (.lst S2.length) (S2 ++ [acc])) Q (fun cls d H' => W cls d σ H'),
          fun H' n => ⟨z.xs.length - (i + 1), by omega, rfl, n⟩, fun v H3 y => ?_⟩
        obtain ⟨e3, s3, r3⟩ := yl v H3 y
        obtain ⟨h3D, n3D⟩ := e3.stays h2D n2D
        have ra3 := RepL.ext s2.ls e3 _ _ ra
        have e13 := e2.trans e3
        refine ⟨φ2, wipeE ρ own, S2, _, ρ3, (re1.ext s1 e13).wipe own, s3, r3, eg, fun σ3 re3 sb => ⟨?_, φ2, ρ3, S2, re3, s3, ?_⟩⟩
        · have := wipe_eq own (σ := wipe σ own) (σ' := σ3) sb.1 fun j hj => sb.2 j fun q => hj (hv j q)
          rw [this]
          exact wipe_eq own (by rw [wipe_length]) fun j hj => (wipe_at own σ j).2 hj
        · revert o2
          cases et ρ3 S2 with
          | ok k S4 =>
            intro o2 φ4 H4 k' e4 s4 hk
            unfold eqB at hk
            subst hk
            obtain ⟨h4D, n4D⟩ := e4.stays h3D n3D
            have ra4 := RepL.ext s3.ls e4 _ _ ra3
            have e14 := e13.trans e4
            cases k with
            | true =>
              refine iteT ⟨φ4, ρ3, S4, re3.ext s3 e4, s4, ?_⟩
              have o2 : Out c H1 φ1 (RepV c) ((match ee ρ3 S4 with
                | .ok d S2 => if acc.length < 1000000 then lcLoop z.st g et ee (wipeE ρ own) (z.xs.drop (i + 1)) (acc ++ [d]) S2 else .stuck
                | .exc .. => .stuck
                | .stuck => .stuck).bind fun acc S2 => .ok (.lst S2.length) (S2 ++ [acc])) Q (fun cls d H' => W cls d σ H') := o2
              revert o2
              cases ee ρ3 S4 with
              | ok d S5 =>
                intro o2 φ5 H5 y5 e5 s5 r5
                obtain ⟨h5D, n5D⟩ := e5.stays h4D n4D
                have ra5 := RepL.ext s4.ls e5 _ _ ra4
                have e15 := e14.trans e5
                by_cases hlen : acc.length < 1000000
                · have o2 : Out c H1 φ1 (RepV c) ((if acc.length < 1000000 then lcLoop z.st g et ee (wipeE ρ own) (z.xs.drop (i + 1)) (acc ++ [d]) S5 else .stuck).bind fun acc S2 => .ok (.lst S2.length) (S2 ++ [acc])) Q (fun cls d H' => W cls d σ H') := o2
                  rw [if_pos hlen] at o2
                  refine ⟨us, h5D, ?_, hlt, φ5, S5, acc ++ [d], us ++ [y5], ?_, s5.aside h5D n5D, upd_same, n5D, RepL.aside h5D _ _ (ra5.append (.cons r5 .nil)), o2⟩
                  · rw [← ra.length]
                    exact Nat.lt_trans hlen (by decide)
                  · refine ⟨e15.pre, fun b o hb nb => ?_, e15.new⟩
                    rw [upd_ne (ne_of_none hb hD)]
                    exact e15.keep b o hb nb
                · have o2 : Out c H1 φ1 (RepV c) ((if acc.length < 1000000 then lcLoop z.st g et ee (wipeE ρ own) (z.xs.drop (i + 1)) (acc ++ [d]) S5 else .stuck).bind fun acc S2 => .ok (.lst S2.length) (S2 ++ [acc])) Q (fun cls d H' => W cls d σ H') := o2
                  rw [if_neg hlen] at o2
                  exact o2.elim
              | exc n ns ds S5 => intro o2; exact o2.elim
              | stuck => intro o2; exact o2.elim
            | false =>
              exact iteF ⟨hlt, φ4, S4, acc, us, e14, s4, h4D, n4D, ra4, o2⟩
          | exc n ns ds S4 => intro o2; exact o2.elim
          | stuck => intro o2; exact o2.elim
    · exact o2.elim
  · refine .inl ?_
    have : z.xs.drop i = [] := List.drop_eq_nil_of_le (by omega)
    rw [this] at o2
    unfold lcLoop at o2
    split at o2
    · rename_i hst
      refine ⟨(it H2 φ2 S2 i e2 s2 hst).2 (by omega), o2 (φ2 ++ [D']) H2 _ ?_ (s2.adopt h2D n2D ra) ?_⟩
      · refine ⟨e2.pre.trans (List.prefix_append _ _), e2.keep, fun b hb nb => ?_⟩
        rcases List.mem_append.mp hb with hb | hb
        · exact e2.new b hb nb
        · simp at hb
          subst hb
          exact hD
      · unfold RepV
        refine ⟨D', rfl, ?_⟩
        rw [← s2.len, List.getElem?_append_right (Nat.le_refl _)]
        simp
    · exact o2.elim
theorem me_lc {elt iter : Expr} {ifs : List Expr} {scope : Scope} {own : List (Str × Nat)} {src : Env → Sto → Res Src} {g : D → Env → Option Env} {vs : List Nat} {et : EvB} {ee : Ev}
    (hi : MI X c W tg iter src) (ok : BlkOk X.N X.env.scope scope own) (hg : ∀ (s : Shared) (H : Hp) (C : Addr) (cl : List (Str × Addr)) (fp : List Addr), MG (X.blk s H scope (compEnvC scope cl C X.env) fp) c tg vs g)
    (ht : ∀ (s : Shared) (H : Hp) (C : Addr) (cl : List (Str × Addr)) (fp : List Addr), MTs (X.blk s H scope (compEnvC scope cl C X.env) fp) c W0 ifs et) (he : ∀ (s : Shared) (H : Hp) (C : Addr) (cl : List (Str × Addr)) (fp : List Addr), ME (X.blk s H scope (compEnvC scope cl C X.env) fp) c W0 elt ee)
    (hv : ∀ j ∈ vs, j ∈ own.map (·.2)) (hc : X.calm = true := by rfl) (hs : ∀ x, foldedSetIterable iter X.env x = pure x := by intro _; rfl) :
    ME X c W (.ListComp elt [⟨tg, iter, ifs, 0⟩] scope pos) (eLc src g et ee (own.map (·.2))) := fun s => by
  refine PE.imp (pe_lc hc s.nd (hi s) ok (fun s' H C cl fp => hg s' H C cl fp s.kk s.nd) (fun s' H C cl fp => ht s' H C cl fp (s.blk ..)) (fun s' H C cl fp => he s' H C cl fp (s.blk ..)) hs) fun σ H Q h => ?_
  exact lc_read hv h
theorem ms_setLc (i : Nat) {y : Str} {py : Pos} {elt iter : Expr} {ifs : List Expr} {scope : Scope} {own : List (Str × Nat)} {src : Env → Sto → Res Src} {g : D → Env → Option Env} {vs : List Nat} {et : EvB} {ee : Ev} {spos : Pos}
    (hi : MI X c W tg iter src) (ok : BlkOk X.N X.env.scope scope own) (hg : ∀ (s : Shared) (H : Hp) (C : Addr) (cl : List (Str × Addr)) (fp : List Addr), MG (X.blk s H scope (compEnvC scope cl C X.env) fp) c tg vs g)
    (ht : ∀ (s : Shared) (H : Hp) (C : Addr) (cl : List (Str × Addr)) (fp : List Addr), MTs (X.blk s H scope (compEnvC scope cl C X.env) fp) c W0 ifs et) (he : ∀ (s : Shared) (H : Hp) (C : Addr) (cl : List (Str × Addr)) (fp : List Addr), ME (X.blk s H scope (compEnvC scope cl C X.env) fp) c W0 elt ee)
    (hv : ∀ j ∈ vs, j ∈ own.map (·.2)) (hy : X.N[i]? = some y := by rfl) (hyl : X.env.scope.names.lookup y = some .local := by rfl) (hsw : swapsWith (.ListComp elt [⟨tg, iter, ifs, 0⟩] scope pos) (some (.Name y py)) spos.line X.env = pure true := by exact sw_true rfl rfl rfl (by decide +kernel))
    (hc : X.calm = true := by rfl) (hs : ∀ x, foldedSetIterable iter X.env x = pure x := by intro _; rfl) :
    MS X c W (.Assign [.Name y py] (.ListComp elt [⟨tg, iter, ifs, 0⟩] scope pos) spos) (sAsg i (eLc src g et ee (own.map (·.2)))) := fun s => by
  refine PS.imp (ps_setLc hc s.nd hy hyl hsw (hi s) ok (fun s' H C cl fp => hg s' H C cl fp s.kk s.nd) (fun s' H C cl fp => ht s' H C cl fp (s.blk ..)) (fun s' H C cl fp => he s' H C cl fp (s.blk ..)) hs) fun D' σ H ⟨φ, ρ, S, re, rs, o⟩ => ?_
  refine lc_read (W := W) hv (Q := fun x H1 => gName i x σ H1 D'.nx) ⟨φ, ρ, S, re, rs, flow_out re rs o fun x S' φ' H' y e s' q re' o' => ?_⟩
  exact o' φ' H' _ (.refl _ _) s' (re'.set q)
end
end MP
end
section
set_option Elab.async false
set_option linter.all false
set_option maxRecDepth 100000
set_option maxHeartbeats 4000000
/-! MP4: calls of defs, defs, errors raised and caught. -/
namespace MP
open PySem PySem.Spec PyProof.Rows L2

/-- a def's promise: what the function rf on data says -/
def spEv (c : Cz) (n : Nat) (rf : List D → Sto → Res D) : Sp := fun vs H Q E => vs.length = n ∧ ∃ φ ds S, RepL c H φ ds vs ∧ RepS c H φ S ∧ Out c H φ (RepV c) (rf ds S) Q E
def eCall (n : Nat) (rf : List D → Sto → Res D) (ra : EvA) : Ev := fun ρ S => (ra ρ S).bind fun ds S1 => if ds.length = n then rf ds S1 else .stuck
def eCallK (n : Nat) (pm : List D → List D → List D) (rf : List D → Sto → Res D) (ra rk : EvA) : Ev := fun ρ S => (ra ρ S).bind fun ds S1 => (rk ρ S1).bind fun ks S2 => if (pm ds ks).length = n then rf (pm ds ks) S2 else .stuck
/-- a def's run -/
def flowRes : Flow → Res D
  | .ret d S => .ok d S
  | .next _ S => .ok .non S
  | .exc n ns ds _ S => .exc n ns ds S
  | _ => .stuck
@[simp] theorem flowRes_ret {d : D} {S : Sto} : flowRes (.ret d S) = .ok d S := rfl
@[simp] theorem flowRes_next {ρ : Env} {S : Sto} : flowRes (.next ρ S) = .ok .non S := rfl
@[simp] theorem flowRes_exc {n : Str} {ns : List Str} {ds : List D} {ρ : Env} {S : Sto} : flowRes (.exc n ns ds ρ S) = .exc n ns ds S := rfl
@[simp] theorem flowRes_stuck : flowRes .stuck = .stuck := rfl
def begins (n : Nat) (ds : List D) : Env := ds.map some ++ List.replicate (n - ds.length) none
def runDef (n : Nat) (ev : Es) (ds : List D) (S : Sto) : Res D := flowRes (ev (begins n ds) S)

section
variable {X : Cx} {c : Cz} {W : WX} {a b d : Expr} {ea eb ed : Ev} {pos : Pos} {es : List Expr} {ra rk : EvA} {k : Nat} {f : Addr} {fd : FuncData} {ps : List Str} {rf : List D → Sto → Res D} {x : Str} {p : Pos}
theorem me_call (F : FnOk X.prog X.w X.K X.mg X.base (L2.CX X.prog X.w) k f fd ps (spEv c ps.length rf)) (hr : Room k X.A) (hm : X.mg x = some (.ref f)) (hk : PySem.W.keepIn X.K (.ref f) = true) (hb : Binds X.K fd ps []) (ha : MA X c W (a :: es) ra) (hg : Gl X x := by rfl)
    (hdb : (x == ("__debug__" : Str)) = false := by decide) (he : starEach (a :: es) X.env = (false, eval a X.env) :: starEach es X.env := by rfl) (hpl : (backTo pos (starEach es X.env)).any (·.1) = false := by rfl) :
    ME X c W (.Call (.Name x p) (a :: es) [] pos) (eCall ps.length rf ra) := fun s => by
  refine PE.imp (pe_callS F hr hg hm hk hb (fun σ => passAt s.tk σ) (ha s) hdb he hpl) fun σ H Q ⟨φ, ρ, S, re, rs, o⟩ => ?_
  refine ⟨φ, ρ, S, re, rs, Out.bind o fun xs S1 φ1 H1 vs e1 s1 r1 o1 => ?_⟩
  split at o1
  · rename_i hl
    exact ⟨by rw [← r1.length]; exact hl, φ1, xs, S1, r1, s1, o1⟩
  · exact o1.elim
/-! keywords -/
def MK (X : Cx) (c : Cz) (W : WX) (kws : List Keyword) (ev : EvA) : Prop := Sh X c W → PK X kws (TAm c W ev)
theorem PK.imp {es : List Keyword} {t t' : TA} (h : PK X es t) (k : ∀ σ H Q, t' σ H Q → t σ H Q) : PK X es t' := ⟨fun pos pins s σ H Q I q => h.run pos pins s σ H Q I (k σ H Q q)⟩
theorem mk_nil : MK X c W [] aNil := fun _ => by
  refine PK.imp pk_nil fun σ H Q ⟨φ, ρ, S, re, rs, o⟩ => ?_
  exact o φ H [] (.refl _ _) rs .nil
theorem mk_cons {nm : Option Str} {kpos : Pos} {kws : List Keyword} (ha : ME X c W a ea) (hr : MK X c W kws ra) : MK X c W (⟨nm, a, kpos⟩ :: kws) (aCons ea ra) := fun s => by
  refine PK.imp (pk_cons (ha s) (hr s)) fun σ H Q ⟨φ, ρ, S, re, rs, o⟩ => ?_
  refine ⟨φ, ρ, S, re, rs, Out.bind o fun x S1 φ1 H1 v e1 s1 r1 o1 => ?_⟩
  refine ⟨φ1, ρ, S1, re.ext rs e1, s1, Out.bind o1 fun xs S2 φ2 H2 vs e2 s2 r2 o2 => ?_⟩
  exact o2 φ2 H2 _ (.refl _ _) s2 (.cons (RepV.ext s1.ls e2 _ _ r1) r2)
/-- how a call with keywords gives the parameters: n positional values, keywords named ks -/
structure KwB (K : PySem.W.Frag) (fd : FuncData) (ps ks : List Str) (n : Nat) (g : List Value → List Value → List Value) (gV : List V → List V → List V) (gD : List D → List D → List D) : Prop where
  to : ∀ (s : Shared) (us ws : List Value), us.length = n → ws.length = ks.length → BindsTo s fd ⟨us, ks.zip ws⟩ (ps.zip (g us ws))
  rel : ∀ {vs : List V} {us : List Value} {zs : List V} {ws : List Value}, vs.length = n → zs.length = ks.length → Vals vs us → Vals zs ws → Vals (gV vs zs) (g us ws)
  rep : ∀ {c : Cz} {H : Hp} {φ : List Addr} {ds es : List D} {vs zs : List V}, vs.length = n → zs.length = ks.length → RepL c H φ ds vs → RepL c H φ es zs → RepL c H φ (gD ds es) (gV vs zs)
/-- the number of what is given in the evaluator -/
def eKw (n m : Nat) (pn : Nat) (gD : List D → List D → List D) (rf : List D → Sto → Res D) (ra rk : EvA) : Ev := fun ρ S => (ra ρ S).bind fun ds S1 => (rk ρ S1).bind fun ks S2 => if ds.length = n ∧ ks.length = m ∧ (gD ds ks).length = pn then rf (gD ds ks) S2 else .stuck
theorem run_kw {pins : List (Addr × Obj)} {σ : St} {H : Hp} {s : Shared} {Q : VK} {us ws : List Value} {vs zs : List V} {ks : List Str} {n : Nat} {g : List Value → List Value → List Value} {gV : List V → List V → List V} {gD : List D → List D → List D} {sp : Sp}
    (F : FnOk X.prog X.w X.K X.mg X.base (L2.CX X.prog X.w) k f fd ps sp) (hr : Room k X.A) (hb : KwB X.K fd ps ks n g gV gD) (tk : Takes X W) (I : Inv X pins σ H s) (r : Vals vs us) (rz : Vals zs ws) (l1 : vs.length = n) (l2 : zs.length = ks.length) (h : sp (gV vs zs) H Q (WE W σ)) :
    wpAny (model X.prog X.w) X.A (call (.ref f) us (ks.zip ws)) (EP X pins σ Q) X.xe s := by
  have r2 := hb.rel l1 l2 r rz
  apply wpAny_call
  apply codeAny_mono (F.run X.A X.stack s H ⟨us, ks.zip ws⟩ (g us ws) (gV vs zs) Q (WE W σ) hr I.env0 (hb.to s us ws (r.length.symm.trans l1) (rz.length.symm.trans l2)) r2 h)
  intro res s' hq
  match res, hq with
  | .error e, hq => exact passAt tk σ pins H s e s' I hq
  | .ok (.ret _), hq => exact I.after hq
theorem me_callK {kws : List Keyword} {ks : List Str} {n : Nat} {g : List Value → List Value → List Value} {gV : List V → List V → List V} {gD : List D → List D → List D}
    (F : FnOk X.prog X.w X.K X.mg X.base (L2.CX X.prog X.w) k f fd ps (spEv c ps.length rf)) (hr : Room k X.A) (hm : X.mg x = some (.ref f)) (hk : PySem.W.keepIn X.K (.ref f) = true) (hb : KwB X.K fd ps ks n g gV gD)
    (ha : MA X c W (a :: es) ra) (hkw : MK X c W kws rk) (hg : Gl X x := by rfl) (hall : (backToKw pos (keywordEach kws X.env)).all (·.1.isSome) = true := by rfl) (hks : (backToKw pos (keywordEach kws X.env)).filterMap (·.1) = ks := by rfl)
    (hdb : (x == ("__debug__" : Str)) = false := by decide) (he : starEach (a :: es) X.env = (false, eval a X.env) :: starEach es X.env := by rfl)
    (hpl : ((backTo pos (starEach (a :: es) X.env)).any (·.1) || (backToKw pos (keywordEach kws X.env)).any (·.1.isNone)) = false := by rfl) :
    ME X c W (.Call (.Name x p) (a :: es) kws pos) (eKw n ks.length ps.length gD rf ra rk) := fun sh => by
  constructor
  intro pins s σ H Q I ⟨φ, ρ, S, re, rs, o⟩
  apply wpAny_Call_Name_kw (ld_glob I hg hm ?_ hdb)
  apply PySem.W.callWith_KW (h₀ := X.base) I.ok.mod.kin hk hall (thn ((ha sh).run pos pins s σ H (fun vs H1 => (TAm c W rk) σ H1 fun zs H2 => vs.length = n ∧ zs.length = ks.length ∧ spEv c ps.length rf (gV vs zs) H2 Q (WE W σ)) I ?_) ?_) hpl he
  · refine ⟨φ, ρ, S, re, rs, Out.bind o fun xs S1 φ1 H1 vs e1 s1 r1 o1 => ?_⟩
    refine ⟨φ1, ρ, S1, re.ext rs e1, s1, Out.bind o1 fun ys S2 φ2 H2 zs e2 s2 r2 o2 => ?_⟩
    split at o2
    · rename_i hl
      have l1 : vs.length = n := by rw [← r1.length]; exact hl.1
      have l2 : zs.length = ks.length := by rw [← r2.length]; exact hl.2.1
      have r3 := hb.rep l1 l2 (RepL.ext s1.ls e2 _ _ r1) r2
      exact ⟨l1, l2, by rw [← r3.length]; exact hl.2.2, φ2, _, S2, r3, s2, o2⟩
    · exact o2.elim
  · rintro us s1 ⟨vs, H1, I1, r, q⟩
    apply thn ((hkw sh).run pos pins s1 σ H1 _ I1 q)
    rintro ws s2 ⟨zs, H2, I2, rz, l1, l2, q2⟩
    refine ⟨I2.kIn, ?_⟩
    rw [hks]
    exact run_kw F hr hb sh.tk I2 r rz l1 l2 q2
theorem me_callK0 {kws : List Keyword} {ks : List Str} {g : List Value → List Value → List Value} {gV : List V → List V → List V} {gD : List D → List D → List D}
    (F : FnOk X.prog X.w X.K X.mg X.base (L2.CX X.prog X.w) k f fd ps (spEv c ps.length rf)) (hr : Room k X.A) (hm : X.mg x = some (.ref f)) (hk : PySem.W.keepIn X.K (.ref f) = true) (hb : KwB X.K fd ps ks 0 g gV gD)
    (hkw : MK X c W kws rk) (hg : Gl X x := by rfl) (hall : (backToKw pos (keywordEach kws X.env)).all (·.1.isSome) = true := by rfl) (hks : (backToKw pos (keywordEach kws X.env)).filterMap (·.1) = ks := by rfl)
    (hdb : (x == ("__debug__" : Str)) = false := by decide)
    (hpl : ((backTo pos (starEach [] X.env)).any (·.1) || (backToKw pos (keywordEach kws X.env)).any (·.1.isNone)) = false := by rfl) :
    ME X c W (.Call (.Name x p) [] kws pos) (eKw 0 ks.length ps.length gD rf aNil rk) := fun sh => by
  constructor
  intro pins s σ H Q I ⟨φ, ρ, S, re, rs, o⟩
  apply wpAny_Call_Name_kw (ld_glob I hg hm ?_ hdb)
  apply PySem.W.callWith_KW0 (h₀ := X.base) I.ok.mod.kin hk hall ?_ hpl
  have o : Out c H φ (RepV c) ((rk ρ S).bind fun ks' S2 => if ([] : List D).length = 0 ∧ ks'.length = ks.length ∧ (gD [] ks').length = ps.length then rf (gD [] ks') S2 else .stuck) Q (fun cls d H' => W cls d σ H') := o
  apply thn ((hkw sh).run pos pins s σ H (fun zs H2 => zs.length = ks.length ∧ spEv c ps.length rf (gV [] zs) H2 Q (WE W σ)) I ?_) ?_
  · refine ⟨φ, ρ, S, re, rs, Out.bind o fun ys S2 φ2 H2 zs e2 s2 r2 o2 => ?_⟩
    split at o2
    · rename_i hl
      have l2 : zs.length = ks.length := by rw [← r2.length]; exact hl.2.1
      have r3 := hb.rep (c := c) (H := H2) (φ := φ2) (ds := []) (vs := []) rfl l2 .nil r2
      exact ⟨l2, by rw [← r3.length]; exact hl.2.2, φ2, _, S2, r3, s2, o2⟩
    · exact o2.elim
  · rintro ws s2 ⟨zs, H2, I2, rz, l2, q2⟩
    refine ⟨I2.kIn, ?_⟩
    rw [hks]
    exact run_kw (us := []) (vs := []) F hr hb sh.tk I2 .nil rz rfl l2 q2
end
/-- a def of the text keeps the promise of its evaluator -/
theorem begins_rep {c : Cz} {H : Hp} {φ : List Addr} {N : List Str} {ds : List D} {vs : List V} (r : RepL c H φ ds vs) : RepE c H φ (begins N.length ds) (L2.start N vs) := by
  have hl := r.length
  unfold begins L2.start
  refine ⟨by simp [hl], fun i d e => ?_⟩
  by_cases hi : i < ds.length
  · rw [List.getElem?_append_left (by simpa using hi), List.getElem?_map] at e
    cases q : ds[i]? with
    | none => rw [q] at e; cases e
    | some d' =>
      rw [q] at e
      cases e
      obtain ⟨v, h1, h2⟩ := r.get q
      refine ⟨v, ?_, h2⟩
      rw [List.getElem?_append_left (by simp; omega), List.getElem?_map, h1]
      rfl
  · rw [List.getElem?_append_right (by simp; omega), List.getElem?_replicate] at e
    split at e <;> cases e
theorem def_ok {P : Program} {w : World} {K : PySem.W.Frag} {mg : Str → Option Value} {base : Heap} {x qual : Str} {st : Stmt} {f : Addr} {fd : FuncData} {N ps : List Str} {k : Nat} {ev : Es} (c : Cz) (hcK : c.K = K) (hcm : c.mg = mg) (F : Fun K x qual st f fd) (S : FnScope N ps (defScope st))
    (hb : ∀ (cdv : Value) (A : Around) (outer : List PySem.Env) (s : Shared) (H : Hp) (E : XK), Room k (A.deeper (envOfC qual (defScope st) s.heap.objs.size f cdv)) →
      MSs (cxOf (L2.CX P w) P w K mg base N qual (defScope st) f cdv A outer s H E) c (fun cls d _ H => E cls d H) (defBody st) ev) : FnOk P w K mg base (L2.CX P w) (k + 1) f fd ps (spEv c ps.length (runDef N.length ev)) := by
  refine F.okX S (fun vs H Q E h => h.1) fun cdv A outer s H vs Q E hr h => ?_
  refine ⟨_, hb cdv A outer s H E hr ⟨hcK, hcm, takes_of rfl rfl rfl rfl, passes_of rfl, S.nd⟩, ?_⟩
  obtain ⟨_, φ, ds, S0, r, rs, o⟩ := h
  refine ⟨φ, begins N.length ds, S0, begins_rep r, rs, ?_⟩
  have o : Out c H φ (RepV c) (flowRes (ev (begins N.length ds) S0)) Q E := o
  revert o
  cases ev (begins N.length ds) S0 with
  | next ρ S => intro o φ' H' σ' e s r; exact o φ' H' .non e s (by unfold RepV; rfl)
  | brk ρ S => intro o; exact o.elim
  | cont ρ S => intro o; exact o.elim
  | ret d S => intro o φ' H' v e s r; exact o φ' H' v e s r
  | exc n ns ds ρ S => intro o φ' H' σ' cls dx vs e s r; exact o φ' H' cls dx vs e s
  | stuck => intro o; exact o.elim

/-! ### an own error, raised -/
/-- what __init__ of an error with the fields fs (in the order of its parameters) leaves -/
def spIni (C : Addr) (fs : List Str) : Sp := fun vs H Q _ => ∃ (a : Addr) (ws : List V), vs = .ref a :: ws ∧ ws.length = fs.length ∧ H a = some (exo a C none) ∧
  ∀ (d : Addr) (H' : Hp), H d = none → d ≠ a → H' a = some (exo a C (some d)) → H' d = some (exd d (fs.reverse.zip ws.reverse)) → (∀ b o, b ≠ a → H b = some o → H' b = some o) → Q .non H'
/-- an error's class -/
structure ErrC (X : Cx) (x : Str) (fs : List Str) (k : Nat) (fd : FuncData) (C fI : Addr) : Prop where
  ox : OexC X.K C
  mC : X.mg x = some (.ref C)
  iC : PySem.W.findIn X.K (.ref C) "__init__" = some (some (.ref fI))
  tI : PySem.W.typeIn X.K (.ref fI) = some (.type "function")
  ok : FnOk X.prog X.w X.K X.mg X.base CX0 k fI fd ("self" :: fs) (spIni C fs)
  bd : Binds X.K fd ("self" :: fs) []
def sRaise (x : Str) (fs : List Str) (ra : EvA) : Es := fun ρ S => ofRes (ra ρ S) ρ fun ds S1 => if ds.length = fs.length ∧ ds.length ≤ 1000 then .exc x fs.reverse ds.reverse ρ S1 else .stuck
theorem zip_fields : ∀ {fs : List Str} {ws : List V}, True → True := fun _ => trivial
section
variable {X : Cx} {c : Cz} {W : WX} {a b d : Expr} {ea eb ed : Ev} {pos : Pos} {es : List Expr} {ra : EvA} {x : Str} {p cp : Pos}
theorem ms_raise {fs : List Str} {k : Nat} {fd : FuncData} {C fI : Addr} (T : ErrC X x fs k fd C fI) (hr : Room (k + 1) X.A) (ha : MA X c W (a :: es) ra) (hg : Gl X x := by rfl) (hc : X.calm = true := by rfl)
    (hdb : (x == ("__debug__" : Str)) = false := by decide) (he : starEach (a :: es) X.env = (false, eval a X.env) :: starEach es X.env := by rfl) (hpl : (backTo cp (starEach es X.env)).any (·.1) = false := by rfl) :
    MS X c W (.Raise (some (.Call (.Name x p) (a :: es) [] cp)) none pos) (sRaise x fs ra) := fun s => by
  refine PS.imp (ps_raise hc s.tk (pmk_oex T.ox T.iC T.tI T.ok hr T.bd .nil pass0 hg T.mC (ha s) hdb he hpl)) fun D σ H ⟨φ, ρ, S, re, rs, o⟩ => ?_
  refine ⟨φ, ρ, S, re, rs, flow_out re rs o fun xs S1 φ1 H1 vs e1 s1 r1 re1 o1 => ?_⟩
  split at o1
  · rename_i hl
    have hl' : vs.length = fs.length := by rw [← r1.length]; exact hl.1
    refine ⟨by rw [← r1.length]; exact hl.2, fun a' ha' => ⟨a', vs, by rw [List.append_nil], hl', upd_same, fun d H' hd hda hx hdx kp => ⟨rfl, d, _, hx, hdx, ?_, ?_⟩⟩⟩
    · rw [← hd, upd_ne hda]
    · have hd1 : H1 d = none := by rw [← hd, upd_ne hda]
      have keep : ∀ b o, H1 b = some o → upd (del H' a') d (.xd (fs.reverse.zip vs.reverse)) b = some o := fun b o hb => by
        have nb : b ≠ a' := ne_of_none hb ha'
        rw [upd_ne (ne_of_none hb hd1), del_ne nb]
        exact kp b o nb (by rw [upd_ne nb]; exact hb)
      obtain ⟨s2, e2⟩ := s1.keep keep
      exact o1 φ1 _ σ _ d vs.reverse e2 s2 (re1.ext s1 e2) (by rw [s.mm]; exact T.mC) upd_same (by simp [hl']) (RepL.reverse (RepL.ext s1.ls e2 _ _ r1))
  · exact o1.elim

/-! ### an own error, caught -/
mutual
/-- no error in it -/
def noX : D → Bool
  | .tup ds => noXL ds
  | .frl ds => noXL ds
  | .exn _ _ _ => false
  | _ => true
def noXL : List D → Bool
  | [] => true
  | d :: ds => noX d && noXL ds
end
mutual
theorem RepV.noX {c : Cz} {H : Hp} {φ : List Addr} (hc : c.xc = none) : ∀ (d : D) (v : V), RepV c H φ d v → noX d = true
  | .non, _, _ => by unfold MP.noX; rfl
  | .bl _, _, _ => by unfold MP.noX; rfl
  | .int _, _, _ => by unfold MP.noX; rfl
  | .str _, _, _ => by unfold MP.noX; rfl
  | .tup ds, _, h => by
    unfold RepV at h
    obtain ⟨a, xs, _, _, e3⟩ := h
    unfold MP.noX
    exact RepL.noX hc ds xs e3
  | .lst _, _, _ => by unfold MP.noX; rfl
  | .frl ds, _, h => by
    unfold RepV at h
    obtain ⟨a, xs, _, _, e3⟩ := h
    unfold MP.noX
    exact RepL.noX hc ds xs e3
  | .exn n ns ds, _, h => by
    unfold RepV at h
    obtain ⟨a, cls, d, vs, _, e2, _⟩ := h
    rw [hc] at e2
    cases e2
theorem RepL.noX {c : Cz} {H : Hp} {φ : List Addr} (hc : c.xc = none) : ∀ (ds : List D) (vs : List V), RepL c H φ ds vs → noXL ds = true
  | [], _, _ => by unfold noXL; rfl
  | d :: ds, _, h => by
    unfold RepL at h
    obtain ⟨v, vr, _, e2, e3⟩ := h
    unfold noXL
    rw [RepV.noX hc d v e2, RepL.noX hc ds vr e3]
    rfl
end
mutual
theorem RepV.swap {c c' : Cz} {H : Hp} {φ : List Addr} (hk : c'.K = c.K) : ∀ (d : D) (v : V), MP.noX d = true → RepV c H φ d v → RepV c' H φ d v
  | .non, _, _, h => by unfold RepV at h ⊢; exact h
  | .bl _, _, _, h => by unfold RepV at h ⊢; exact h
  | .int _, _, _, h => by unfold RepV at h ⊢; exact h
  | .str _, _, _, h => by unfold RepV at h ⊢; exact h
  | .tup ds, _, n, h => by
    unfold RepV at h ⊢
    unfold MP.noX at n
    obtain ⟨a, xs, e1, e2, e3⟩ := h
    exact ⟨a, xs, e1, by rw [hk]; exact e2, RepL.swap hk ds xs n e3⟩
  | .lst _, _, _, h => by unfold RepV at h ⊢; exact h
  | .frl ds, _, n, h => by
    unfold RepV at h ⊢
    unfold MP.noX at n
    obtain ⟨a, xs, e1, e2, e3⟩ := h
    exact ⟨a, xs, e1, by rw [hk]; exact e2, RepL.swap hk ds xs n e3⟩
  | .exn n ns ds, _, n', h => by
    unfold MP.noX at n'
    cases n'
theorem RepL.swap {c c' : Cz} {H : Hp} {φ : List Addr} (hk : c'.K = c.K) : ∀ (ds : List D) (vs : List V), noXL ds = true → RepL c H φ ds vs → RepL c' H φ ds vs
  | [], _, _, h => by unfold RepL at h ⊢; exact h
  | d :: ds, _, n, h => by
    unfold RepL at h ⊢
    unfold noXL at n
    rw [Bool.and_eq_true] at n
    obtain ⟨v, vr, e1, e2, e3⟩ := h
    exact ⟨v, vr, e1, RepV.swap hk d v n.1 e2, RepL.swap hk ds vr n.2 e3⟩
end
theorem RepS.swap {c c' : Cz} {H H0 : Hp} {φ φ0 : List Addr} {S : Sto} (hk : c'.K = c.K) (h0 : c'.xc = none) (r0 : RepS c' H0 φ0 S) (r : RepS c H φ S) : RepS c' H φ S := by
  refine ⟨r.nd, r.len, fun l xs h => ?_⟩
  obtain ⟨a, vs, h1, h2, h3⟩ := r.at_ l xs h
  obtain ⟨_, vs0, _, _, h4⟩ := r0.at_ l xs h
  exact ⟨a, vs, h1, h2, RepL.swap hk _ _ (RepL.noX h0 _ _ h4) h3⟩
theorem RepS.hot {c c' : Cz} {H : Hp} {φ : List Addr} {S : Sto} (hk : c'.K = c.K) (h0 : c.xc = none) (r : RepS c H φ S) : RepS c' H φ S := by
  refine ⟨r.nd, r.len, fun l xs h => ?_⟩
  obtain ⟨a, vs, h1, h2, h3⟩ := r.at_ l xs h
  exact ⟨a, vs, h1, h2, RepL.swap hk _ _ (RepL.noX h0 _ _ h3) h3⟩
theorem RepE.hot {c c' : Cz} {H : Hp} {φ : List Addr} {ρ : Env} {σ : St} (hk : c'.K = c.K) (h0 : c.xc = none) (r : RepE c H φ ρ σ) : RepE c' H φ ρ σ :=
  ⟨r.1, fun i d e => by
    obtain ⟨v, h1, h2⟩ := r.2 i d e
    exact ⟨v, h1, RepV.swap hk _ _ (RepV.noX h0 _ _ h2) h2⟩⟩

open Classical in
noncomputable def keepIf (p : Prop) (f : Flow) : Flow := if p then f else .stuck
theorem keepIf_out {c : Cz} {W : WX} {H : Hp} {φ : List Addr} {p : Prop} {f : Flow} {D : Ends} (o : OutF c W H φ (keepIf p f) D) : p ∧ OutF c W H φ f D := by
  unfold keepIf at o
  by_cases h : p
  · rw [if_pos h] at o
    exact ⟨h, o⟩
  · rw [if_neg h] at o
    exact o.elim
theorem keepIf_pos {p : Prop} {f : Flow} (h : p) : keepIf p f = f := by unfold keepIf; rw [if_pos h]
noncomputable def suiteEnd (S : Sto) : Flow → Flow
  | .ret d S' => keepIf (noX d = true ∧ S' = S) (.ret d S')
  | .next ρ S' => keepIf ((∀ d, some d ∈ ρ → noX d = true) ∧ S' = S) (.next ρ S')
  | .brk ρ S' => keepIf ((∀ d, some d ∈ ρ → noX d = true) ∧ S' = S) (.brk ρ S')
  | .cont ρ S' => keepIf ((∀ d, some d ∈ ρ → noX d = true) ∧ S' = S) (.cont ρ S')
  | .exc .. => .stuck
  | .stuck => .stuck
def unset (i : Nat) : Flow → Flow
  | .next ρ S => .next (ρ.set i none) S
  | .brk ρ S => .brk (ρ.set i none) S
  | .cont ρ S => .cont (ρ.set i none) S
  | f => f
noncomputable def sTryAs (i : Nat) (dec : Str → Option Bool) (body suite : Es) : Es := fun ρ S => match body ρ S with
  | .exc n ns ds ρ' S' => match dec n with
    | some true => suiteEnd S' (unset i (suite (ρ'.set i (some (.exn n ns ds))) S'))
    | some false => .exc n ns ds ρ' S'
    | none => .stuck
  | f => f
noncomputable def sTry (dec : Str → Option Bool) (body suite : Es) : Es := fun ρ S => match body ρ S with
  | .exc n ns ds ρ' S' => match dec n with
    | some true => suiteEnd S' (suite ρ' S')
    | some false => .exc n ns ds ρ' S'
    | none => .stuck
  | f => f
def Cz.hot (c : Cz) (a : Addr) (cls : Value) (d : Addr) : Cz := ⟨c.K, c.mg, some (a, cls, d)⟩
def tsm (c : Cz) (ev : Es) (a : Addr) (cls : Value) (d : Option Addr) : TS := match d with
  | some dx => TSm (c.hot a cls dx) W0 ev
  | none => fun _ _ _ => False
/-- back out of the suite -/
theorem suite_back {c c' : Cz} {H : Hp} {φ : List Addr} {S : Sto} {f : Flow} {D : Ends} (hk : c.K = c'.K) (h0 : c.xc = none) (r0 : RepS c H φ S) (o : OutF c W H φ (suiteEnd S f) D) : OutF c' W0 H φ f D := by
  have env : ∀ {H' : Hp} {φ' : List Addr} {ρ : Env} {σ : St}, (∀ d, some d ∈ ρ → noX d = true) → RepE c' H' φ' ρ σ → RepE c H' φ' ρ σ := fun {H' φ' ρ σ} n r =>
    ⟨r.1, fun i d e => by
      obtain ⟨v, h1, h2⟩ := r.2 i d e
      exact ⟨v, h1, RepV.swap hk _ _ (n d (List.mem_of_getElem? e)) h2⟩⟩
  cases f with
  | ret d S' =>
    obtain ⟨⟨h1, es⟩, o2⟩ := keepIf_out o
    subst es
    intro φ' H' v e s r
    exact o2 φ' H' v e (RepS.swap hk h0 r0 s) (RepV.swap hk _ _ h1 r)
  | next ρ S' =>
    obtain ⟨⟨h1, es⟩, o2⟩ := keepIf_out o
    subst es
    intro φ' H' σ' e s r
    exact o2 φ' H' σ' e (RepS.swap hk h0 r0 s) (env h1 r)
  | brk ρ S' =>
    obtain ⟨⟨h1, es⟩, o2⟩ := keepIf_out o
    subst es
    intro φ' H' σ' e s r
    exact o2 φ' H' σ' e (RepS.swap hk h0 r0 s) (env h1 r)
  | cont ρ S' =>
    obtain ⟨⟨h1, es⟩, o2⟩ := keepIf_out o
    subst es
    intro φ' H' σ' e s r
    exact o2 φ' H' σ' e (RepS.swap hk h0 r0 s) (env h1 r)
  | exc n ns ds ρ S' => exact o.elim
  | stuck => exact o.elim
theorem unset_out {c : Cz} {H : Hp} {φ : List Addr} {i : Nat} {f : Flow} {D : Ends} (o : OutF c W0 H φ (unset i f) D) : OutF c W0 H φ f { nx := fun σ' H' => D.nx (σ'.set i none) H', rt := D.rt, bk := fun σ' H' => D.bk (σ'.set i none) H', ct := fun σ' H' => D.ct (σ'.set i none) H' } := by
  cases f with
  | next ρ S => intro φ' H' σ' e s r; exact o φ' H' _ e s r.unset
  | brk ρ S => intro φ' H' σ' e s r; exact o φ' H' _ e s r.unset
  | cont ρ S => intro φ' H' σ' e s r; exact o φ' H' _ e s r.unset
  | ret d S => exact o
  | exc n ns ds ρ S => exact o
  | stuck => exact o
theorem ms_tryAs (i : Nat) {n ex : Str} {cv : Value} {dec : Str → Option Bool} {body suite : List Stmt} {b0 : Stmt} {np hp : Pos} {eb' es' : Es} (h0 : c.xc = none) (hdec : ∀ m b cls, dec m = some b → X.mg m = some cls → PySem.W.exmOne X.K cls cv = some b)
    (hn : Names X ex cv) (hb : ∀ (W : WX) (pn : List (Addr × Obj)) (xe : Value → Shared → Prop), Takes (X.tr pn xe) W → PassesOwn (model X.prog X.w) X.A X.env xe → MSs (X.tr pn xe) c W body eb')
    (hsu : ∀ (a : Addr) (oe : Obj) (cls : Value) (d : Addr) (pn : List (Addr × Obj)), Zc cls (some d) oe → (∃ vs, oe.data = .fields vs) → MSs (X.suite a ((a, oe) :: pn)) (c.hot a cls d) W0 (b0 :: suite) es')
    (hi : X.N[i]? = some n := by rfl) (hln : X.env.kindOf n = some .local := by rfl) (hs : X.stack = X.env :: X.outer := by rfl) (hf : X.env.frame = some X.env.locals := by rfl) :
    MS X c W (.Try body [.ExceptHandler (some (.Name ex np)) (some n) (b0 :: suite) hp] [] [] pos) (sTryAs i dec eb' es') := fun s => by
  refine PS.imp (ps_try_as (tb := fun W => TSm c W eb') (ts := fun a cls d => tsm c es' a cls d) hs hf s.nd hi hln hn s.tk (fun W pn xe tk ow => hb W pn xe tk ow ⟨s.kk, s.mm, tk, ow, s.nd⟩) (fun a oe cls d pn hz hf => ?_)) fun D σ H ⟨φ, ρ, S, re, rs, o⟩ => ?_
  · cases d with
    | none => exact ⟨fun _ _ _ _ _ _ h => h.elim⟩
    | some d => exact hsu a oe cls d pn hz hf ⟨s.kk, s.mm, takes0, PassesOwn.never, s.nd⟩
  · refine ⟨φ, ρ, S, re, rs, ?_⟩
    unfold sTryAs at o
    revert o
    cases eb' ρ S with
    | exc m ns ds ρ' S' =>
      intro o φ' H' σ' cls dx vs e s1 r1 hm hd hl rl
      cases hq : dec m with
      | none => simp only [hq] at o; exact o.elim
      | some bb =>
        simp only [hq] at o
        refine ⟨bb, hdec m bb cls hq (by rw [← s.mm]; exact hm), fun hbt a' ha' => ?_, fun hbf => ?_⟩
        · subst hbt
          have hotK : (c.hot a' cls dx).K = c.K := rfl
          refine ⟨φ', ρ'.set i (some (.exn m ns ds)), S', ?_, RepS.hot hotK h0 s1, ?_⟩
          · refine (RepE.hot hotK h0 r1).set ?_
            unfold RepV
            exact ⟨a', cls, dx, vs, rfl, rfl, hm, hd, hl, RepL.swap hotK _ _ (RepL.noX h0 _ _ rl) rl⟩
          · exact unset_out (suite_back (c := c) (W := W) rfl h0 s1 (OutF.later o e))
        · subst hbf
          exact o φ' H' σ' cls dx vs e s1 r1 hm hd hl rl
    | next ρ' S' => intro o; exact o
    | brk ρ' S' => intro o; exact o
    | cont ρ' S' => intro o; exact o
    | ret d S' => intro o; exact o
    | stuck => intro o; exact o
theorem ms_try {ex : Str} {cv : Value} {dec : Str → Option Bool} {body suite : List Stmt} {b0 : Stmt} {np hp : Pos} {eb' es' : Es} (h0 : c.xc = none) (hdec : ∀ m b cls, dec m = some b → X.mg m = some cls → PySem.W.exmOne X.K cls cv = some b)
    (hn : Names X ex cv) (hb : ∀ (W : WX) (pn : List (Addr × Obj)) (xe : Value → Shared → Prop), Takes (X.tr pn xe) W → PassesOwn (model X.prog X.w) X.A X.env xe → MSs (X.tr pn xe) c W body eb')
    (hsu : ∀ (a : Addr) (oe : Obj) (cls : Value) (d : Addr) (pn : List (Addr × Obj)), Zc cls (some d) oe → (∃ vs, oe.data = .fields vs) → MSs (X.suite a ((a, oe) :: pn)) (c.hot a cls d) W0 (b0 :: suite) es')
    (hs : X.stack = X.env :: X.outer := by rfl) (hf : X.env.frame = some X.env.locals := by rfl) :
    MS X c W (.Try body [.ExceptHandler (some (.Name ex np)) none (b0 :: suite) hp] [] [] pos) (sTry dec eb' es') := fun s => by
  refine PS.imp (ps_try_only (tb := fun W => TSm c W eb') (ts := fun a cls d => tsm c es' a cls d) hs hf hn s.tk (fun W pn xe tk ow => hb W pn xe tk ow ⟨s.kk, s.mm, tk, ow, s.nd⟩) (fun a oe cls d pn hz hf => ?_)) fun D σ H ⟨φ, ρ, S, re, rs, o⟩ => ?_
  · cases d with
    | none => exact ⟨fun _ _ _ _ _ _ h => h.elim⟩
    | some d => exact hsu a oe cls d pn hz hf ⟨s.kk, s.mm, takes0, PassesOwn.never, s.nd⟩
  · refine ⟨φ, ρ, S, re, rs, ?_⟩
    unfold sTry at o
    revert o
    cases eb' ρ S with
    | exc m ns ds ρ' S' =>
      intro o φ' H' σ' cls dx vs e s1 r1 hm hd hl rl
      cases hq : dec m with
      | none => simp only [hq] at o; exact o.elim
      | some bb =>
        simp only [hq] at o
        refine ⟨bb, hdec m bb cls hq (by rw [← s.mm]; exact hm), fun hbt a' ha' => ?_, fun hbf => ?_⟩
        · subst hbt
          have hotK : (c.hot a' cls dx).K = c.K := rfl
          exact ⟨φ', ρ', S', RepE.hot hotK h0 r1, RepS.hot hotK h0 s1, suite_back (c := c) (W := W) rfl h0 s1 (OutF.later o e)⟩
        · subst hbf
          exact o φ' H' σ' cls dx vs e s1 r1 hm hd hl rl
    | next ρ' S' => intro o; exact o
    | brk ρ' S' => intro o; exact o
    | cont ρ' S' => intro o; exact o
    | ret d S' => intro o; exact o
    | stuck => intro o; exact o
end
end MP
end
section
set_option Elab.async false
set_option linter.all false
set_option maxRecDepth 100000
set_option maxHeartbeats 4000000
/-! MP5: operations on data. -/
namespace MP
open PySem PySem.Spec PyProof.Rows L2

section
variable {X : Cx} {c : Cz} {W : WX} {a b d : Expr} {ea eb ed : Ev} {pos : Pos} {es : List Expr} {ra : EvA} {x : Str} {p : Pos}
abbrev Op2 := D → D → Sto → Option (D × Sto)
/-- the most that a list made by + or * may hold here -/
def most : Nat := 1000000
theorem most_le {n : Nat} (h : n ≤ most) : n ≤ sizeLine := Nat.le_trans h (by decide)
theorem most_lt {n : Nat} (h : n < most) : n < sizeLine := Nat.lt_of_lt_of_le h (by decide)

theorem OpR.imp {f : Value → Value → Sem Value} {r r' : R2} (h : OpR X f r) (k : ∀ x y H Q, r' x y H Q → r x y H Q) : OpR X f r' := fun pins s σ H x y v u Q I rx ry q => h pins s σ H x y v u Q I rx ry (k _ _ _ _ q)
theorem OpR.or {f : Value → Value → Sem Value} {r r' : R2} (h : OpR X f r) (h' : OpR X f r') : OpR X f (fun x y H Q => r x y H Q ∨ r' x y H Q) := fun pins s σ H x y v u Q I rx ry q => by
  rcases q with q | q
  · exact h pins s σ H x y v u Q I rx ry q
  · exact h' pins s σ H x y v u Q I rx ry q
/-! ints -/
def dI (C : Int → Int → Prop) [∀ i j, Decidable (C i j)] (g : Int → Int → D) : Op2 := fun d e S => match d, e with
  | .int i, .int j => if C i j then some (g i j, S) else none
  | _, _ => none
def dI0 (g : Int → Int → D) : Op2 := fun d e S => match d, e with
  | .int i, .int j => some (g i j, S)
  | _, _ => none
theorem opd_I {f : Value → Value → Sem Value} {C : Int → Int → Prop} [∀ i j, Decidable (C i j)] {g : Int → Int → V} {gD : Int → Int → D} (h : OpR X f (rI C g)) (hg : ∀ i j c H φ, RepV c H φ (gD i j) (g i j)) : OpD X c f (dI C gD) := fun _ => by
  refine OpR.imp h fun x y H Q ⟨φ, S, d, e, rs, r1, r2, o⟩ => ?_
  cases d <;> cases e <;> first
    | exact False.elim o
    | skip
  rename_i i j
  unfold RepV at r1 r2
  unfold dI at o
  by_cases hc : C i j
  · simp only [if_pos hc] at o
    exact ⟨i, j, r1, r2, hc, o φ H _ (.refl _ _) rs (hg i j c H φ)⟩
  · simp only [if_neg hc] at o
    exact o.elim
theorem opd_I0 {f : Value → Value → Sem Value} {g : Int → Int → V} {gD : Int → Int → D} (h : OpR X f (rI0 g)) (hg : ∀ i j c H φ, RepV c H φ (gD i j) (g i j)) : OpD X c f (dI0 gD) := fun _ => by
  refine OpR.imp h fun x y H Q ⟨φ, S, d, e, rs, r1, r2, o⟩ => ?_
  cases d <;> cases e <;> first
    | exact False.elim o
    | skip
  rename_i i j
  unfold RepV at r1 r2
  exact ⟨i, j, r1, r2, o φ H _ (.refl _ _) rs (hg i j c H φ)⟩
theorem rep_int {i : Int} {H : Hp} {φ : List Addr} : RepV c H φ (.int i) (.int i) := by unfold RepV; rfl
theorem rep_bl {i : Bool} {H : Hp} {φ : List Addr} : RepV c H φ (.bl i) (.bl i) := by unfold RepV; rfl
theorem rep_str {i : Str} {H : Hp} {φ : List Addr} : RepV c H φ (.str i) (.str i) := by unfold RepV; rfl
theorem rep_non {H : Hp} {φ : List Addr} : RepV c H φ .non .non := by unfold RepV; rfl
def dSub : Op2 := dI0 fun i j => .int (i - j)
theorem od_sub : OpD X c (binaryOp .Sub) dSub := opd_I0 op_sub fun _ _ _ _ _ => rep_int
def CDivA (i j : Int) : Prop := j ≠ 0 ∧ j.natAbs.log2 < 9000
noncomputable instance (i j : Int) : Decidable (CDivA i j) := Classical.propDecidable _
theorem op_fdivA : OpR X (binaryOp .FloorDiv) (rI CDivA fun i j => .int (i.fdiv j)) := opI fun i j _ _ _ _ _ hc q => floordiv_int hc.1 q (.inl (PyProof.noPylong_of_log2 hc.2))
noncomputable def dDiv : Op2 := dI CDivA fun i j => .int (i.fdiv j)
theorem od_div : OpD X c (binaryOp .FloorDiv) dDiv := opd_I op_fdivA fun _ _ _ _ _ => rep_int
def CModA (i j : Int) : Prop := j ≠ 0
instance (i j : Int) : Decidable (CModA i j) := by unfold CModA; exact inferInstance
def dMod : Op2 := dI CModA fun i j => .int (i.fmod j)
theorem od_mod : OpD X c (binaryOp .Mod) dMod := opd_I (C := CModA) op_modN fun _ _ _ _ _ => rep_int
instance (i j : Int) : Decidable (CPow i j) := by unfold CPow; exact inferInstance
def dPow : Op2 := dI CPow fun i j => .int (i ^ j.toNat)
theorem od_pow : OpD X c (binaryOp .Pow) dPow := opd_I op_pow fun _ _ _ _ _ => rep_int
def dLt : Op2 := dI0 fun i j => .bl (decide (i < j))
def dLe : Op2 := dI0 fun i j => .bl (decide (i ≤ j))
def dGt : Op2 := dI0 fun i j => .bl (decide (j < i))
def dGe : Op2 := dI0 fun i j => .bl (decide (j ≤ i))
theorem od_lt : OpD X c (compareOp .Lt) dLt := opd_I0 op_lt fun _ _ _ _ _ => rep_bl
theorem od_le : OpD X c (compareOp .LtE) dLe := opd_I0 op_le fun _ _ _ _ _ => rep_bl
theorem od_gt : OpD X c (compareOp .Gt) dGt := opd_I0 op_gt fun _ _ _ _ _ => rep_bl
theorem od_ge : OpD X c (compareOp .GtE) dGe := opd_I0 op_ge fun _ _ _ _ _ => rep_bl
def dNeg : D → Sto → Option (D × Sto) := fun d S => match d with
  | .int i => some (.int (-i), S)
  | _ => none
theorem ud_neg : UnD X c (unaryOp .USub) dNeg := fun _ => by
  intro pins s σ H x v Q I rx ⟨φ, S, d, rs, r, o⟩
  cases d <;> first
    | exact False.elim o
    | skip
  rename_i i
  unfold RepV at r
  exact un_neg pins s σ H x v Q I rx ⟨i, r, o φ H _ (.refl _ _) rs rep_int⟩
/-! + and *, by kinds -/
def dAdd : Op2 := fun d e S => match d, e with
  | .int i, .int j => some (.int (i + j), S)
  | .lst l, .lst m => match S[l]?, S[m]? with
    | some xs, some ys => if xs.length + ys.length ≤ most then some (.lst S.length, S ++ [xs ++ ys]) else none
    | _, _ => none
  | .tup xs, .tup ys => if xs.length + ys.length ≤ most then some (.tup (xs ++ ys), S) else none
  | .str x, .str y => if x.length + y.length ≤ most then some (.str (x ++ y), S) else none
  | _, _ => none
theorem new_list {φ : List Addr} {H : Hp} {S : Sto} {Q : VK} {xs : List D} {vs : List V} (rs : RepS c H φ S) (r : RepL c H φ xs vs) (o : OutO c H φ (RepV c) (some (D.lst S.length, S ++ [xs])) Q) : ∀ p, H p = none → Q (.ref p) (upd H p (.lst vs)) := fun p hp => by
  obtain ⟨s2, e2⟩ := rs.push hp r
  refine o _ _ _ e2 s2 ?_
  unfold RepV
  refine ⟨p, rfl, ?_⟩
  rw [← rs.len, List.getElem?_append_right (Nat.le_refl _)]
  simp
theorem new_tup {φ : List Addr} {H : Hp} {S : Sto} {Q : VK} {xs : List D} {vs : List V} (rs : RepS c H φ S) (r : RepL c H φ xs vs) (o : OutO c H φ (RepV c) (some (D.tup xs, S)) Q) : ∀ p, H p = none → Q (.ref p) (upd H p (.tup vs)) := fun p hp => by
  obtain ⟨s2, e2⟩ := rs.keep (H' := upd H p (.tup vs)) (upd_keep hp)
  refine o _ _ _ e2 s2 ?_
  unfold RepV
  exact ⟨p, vs, rfl, SqT.of upd_same, RepL.ext rs.ls e2 _ _ r⟩
theorem old_tup {φ : List Addr} {H : Hp} {S : Sto} {Q : VK} {xs : List D} {vs : List V} {q : Addr} (rs : RepS c H φ S) (h : SqT c.K H q vs) (r : RepL c H φ xs vs) (o : OutO c H φ (RepV c) (some (D.tup xs, S)) Q) : Q (.ref q) H := by
  refine o φ H _ (.refl _ _) rs ?_
  unfold RepV
  exact ⟨q, vs, rfl, h, r⟩
theorem od_add : OpD X c (binaryOp .Add) dAdd := fun kk => by
  refine OpR.imp (OpR.or op_add (OpR.or op_cat (OpR.or op_catA op_add_str))) fun x y H Q ⟨φ, S, d, e, rs, r1, r2, o⟩ => ?_
  cases d <;> cases e <;> first
    | exact False.elim o
    | skip
  · rename_i i j
    unfold RepV at r1 r2
    exact .inl ⟨i, j, r1, r2, o φ H _ (.refl _ _) rs rep_int⟩
  · rename_i i j
    unfold RepV at r1 r2
    unfold dAdd at o
    by_cases hz : i.length + j.length ≤ most
    · simp only [if_pos hz] at o
      exact .inr (.inr (.inr ⟨i, j, r1, r2, most_le hz, o φ H _ (.refl _ _) rs rep_str⟩))
    · simp only [if_neg hz] at o
      exact o.elim
  · rename_i xs ys
    unfold RepV at r1 r2
    obtain ⟨a1, us, rfl, h1, k1⟩ := r1
    obtain ⟨a2, ws, rfl, h2, k2⟩ := r2
    unfold dAdd at o
    by_cases hz : xs.length + ys.length ≤ most
    · simp only [if_pos hz] at o
      have l1 := k1.length
      have l2 := k2.length
      refine .inr (.inr (.inl ⟨a1, a2, us, ws, rfl, rfl, by rw [← kk]; exact h1, by rw [← kk]; exact h2, by rw [← l1, ← l2]; exact most_le hz, fun eu => ?_, fun _ ew => ?_, fun _ _ => ?_⟩))
      · subst eu
        have : xs = [] := List.eq_nil_of_length_eq_zero (by simpa using l1)
        subst this
        exact old_tup rs h2 k2 o
      · subst ew
        have : ys = [] := List.eq_nil_of_length_eq_zero (by simpa using l2)
        subst this
        rw [List.append_nil] at o
        exact old_tup rs h1 k1 o
      · exact new_tup rs (k1.append k2) o
    · simp only [if_neg hz] at o
      exact o.elim
  · rename_i l m
    unfold RepV at r1 r2
    obtain ⟨a1, rfl, h1⟩ := r1
    obtain ⟨a2, rfl, h2⟩ := r2
    unfold dAdd at o
    cases q1 : S[l]? with
    | none => simp only [q1] at o; exact o.elim
    | some xs =>
      cases q2 : S[m]? with
      | none => simp only [q1, q2] at o; exact o.elim
      | some ys =>
        simp only [q1, q2] at o
        by_cases hz : xs.length + ys.length ≤ most
        · simp only [if_pos hz] at o
          obtain ⟨b1, us, g1, g2, g3⟩ := rs.at_ l xs q1
          obtain ⟨b2, ws, g4, g5, g6⟩ := rs.at_ m ys q2
          rw [h1] at g1
          rw [h2] at g4
          cases g1
          cases g4
          exact .inr (.inl ⟨a1, a2, us, ws, rfl, rfl, g2, g5, by rw [← g3.length, ← g6.length]; exact most_le hz, new_list rs (g3.append g6) o⟩)
        · simp only [if_neg hz] at o
          exact o.elim
/-- * of two factors of together less than a hundred million bits -/
def CMulA (i j : Int) : Prop := i.natAbs.log2 + j.natAbs.log2 < 100000000
theorem CMulA.ok {i j : Int} (h : CMulA i j) : IntMulOk i j := by
  have b : ∀ x : Int, Builtin.Int.intBits x ≤ x.natAbs.log2 + 1 := fun x => by
    unfold Builtin.Int.intBits
    split <;> omega
  have h1 := b i
  have h2 := b j
  have h3 : i.natAbs.log2 + j.natAbs.log2 < 100000000 := h
  have e : bitsLine = 134217728 := by decide
  unfold IntMulOk
  intro z
  rw [Bool.and_eq_true] at z
  have z2 := z.2
  unfold Builtin.Int.intTooBig at z2
  have z3 := of_decide_eq_true z2
  rw [e] at z3
  omega
theorem op_mulA {X : Cx} : OpR X (binaryOp .Mult) (rI CMulA fun i j => .int (i * j)) := opI fun _ _ _ _ _ _ _ hc q => mul_int q hc.ok
noncomputable instance (i j : Int) : Decidable (CMulA i j) := Classical.propDecidable _
noncomputable def dMul : Op2 := fun d e S => match d, e with
  | .int i, .int j => if CMulA i j then some (.int (i * j), S) else none
  | .lst l, .int k => match S[l]? with
    | some xs => if k < 1000000 ∧ -1000000 < k ∧ xs.length * k.toNat ≤ most then some (.lst S.length, S ++ [(List.replicate k.toNat xs).flatten]) else none
    | none => none
  | _, _ => none
theorem RepL.rep {H : Hp} {φ : List Addr} {ds : List D} {vs : List V} (r : RepL c H φ ds vs) : ∀ n : Nat, RepL c H φ (List.replicate n ds).flatten (List.replicate n vs).flatten
  | 0 => .nil
  | n + 1 => by
    rw [List.replicate_succ, List.replicate_succ, List.flatten_cons, List.flatten_cons]
    exact r.append (RepL.rep r n)
theorem od_mul : OpD X c (binaryOp .Mult) dMul := fun kk => by
  refine OpR.imp (OpR.or op_mulA op_rep) fun x y H Q ⟨φ, S, d, e, rs, r1, r2, o⟩ => ?_
  cases d <;> cases e <;> first
    | exact False.elim o
    | skip
  · rename_i i j
    unfold RepV at r1 r2
    unfold dMul at o
    by_cases hz : CMulA i j
    · simp only [if_pos hz] at o
      exact .inl ⟨i, j, r1, r2, hz, o φ H _ (.refl _ _) rs rep_int⟩
    · simp only [if_neg hz] at o
      exact o.elim
  · rename_i l k
    unfold RepV at r1 r2
    obtain ⟨a1, rfl, h1⟩ := r1
    unfold dMul at o
    cases q1 : S[l]? with
    | none => simp only [q1] at o; exact o.elim
    | some xs =>
      simp only [q1] at o
      by_cases hz : k < 1000000 ∧ -1000000 < k ∧ xs.length * k.toNat ≤ most
      · simp only [if_pos hz] at o
        obtain ⟨b1, us, g1, g2, g3⟩ := rs.at_ l xs q1
        rw [h1] at g1
        cases g1
        exact .inr ⟨a1, k, us, rfl, r2, g2, by omega, by omega, by rw [← g3.length]; exact most_le hz.2.2, new_list rs (g3.rep _) o⟩
      · simp only [if_neg hz] at o
        exact o.elim
/-! == and != of data -/
def toPyL (f : D → Option PyData) : List D → Option (List PyData)
  | [] => some []
  | d :: ds => (f d).bind fun p => (toPyL f ds).map fun ps => p :: ps
def toPy (S : Sto) : Nat → D → Option PyData
  | 0, _ => none
  | n + 1, d => match d with
    | .non => some .none
    | .bl b => some (.bool b)
    | .int i => some (.int i)
    | .str x => if PyData.strOk x = true then some (.str x) else none
    | .tup ds => (toPyL (toPy S n) ds).map .tuple
    | .lst l => (S[l]?).bind fun ds => (toPyL (toPy S n) ds).map .list
    | .frl ds => (toPyL (toPy S n) ds).map .list
    | .exn .. => none
theorem depthAll_le {n : Nat} : ∀ {ps : List PyData}, (∀ p ∈ ps, p.depth ≤ n) → PyData.depthAll ps ≤ n
  | [], _ => by simp [PyData.depthAll]
  | p :: ps, h => by
    have h1 := h p (by simp)
    have h2 := depthAll_le (n := n) (ps := ps) fun q hq => h q (by simp [hq])
    simp only [PyData.depthAll]
    omega
theorem toPy_ok {H : Hp} {φ : List Addr} {S : Sto} (rs : RepS c H φ S) : ∀ (n : Nat) (d : D) (v : V) (pd : PyData), RepV c H φ d v → toPy S n d = some pd → Dp c.K H v pd ∧ pd.canLay0 = true ∧ pd.depth ≤ n
  | 0, d, v, pd, r, e => by cases e
  | n + 1, d, v, pd, r, e => by
    have all : ∀ (ds : List D) (vs : List V) (ps : List PyData), RepL c H φ ds vs → toPyL (toPy S n) ds = some ps → DpAll c.K H vs ps ∧ PyData.canLayAll0 ps = true ∧ ∀ p ∈ ps, p.depth ≤ n := by
      intro ds
      induction ds with
      | nil =>
        intro vs ps r e
        unfold RepL at r
        subst r
        cases e
        exact ⟨.nil, by simp [PyData.canLayAll0], by simp⟩
      | cons d ds ih =>
        intro vs ps r e
        unfold RepL at r
        obtain ⟨v, vr, rfl, r1, r2⟩ := r
        unfold toPyL at e
        cases q1 : toPy S n d with
        | none => rw [q1] at e; cases e
        | some p1 =>
          cases q2 : toPyL (toPy S n) ds with
          | none => rw [q1, q2] at e; cases e
          | some p2 =>
            rw [q1, q2] at e
            cases e
            obtain ⟨a1, a2, a3⟩ := toPy_ok rs n d v p1 r1 q1
            obtain ⟨b1, b2, b3⟩ := ih vr p2 r2 q2
            refine ⟨.cons a1 b1, by simp [PyData.canLayAll0, a2, b2], fun p hp => ?_⟩
            rcases List.mem_cons.mp hp with rfl | hp
            · exact a3
            · exact b3 p hp
    cases d with
    | non => cases e; unfold RepV at r; subst r; exact ⟨.non, by simp [PyData.canLay0], by simp [PyData.depth]⟩
    | bl b => cases e; unfold RepV at r; subst r; exact ⟨.bl b, by simp [PyData.canLay0], by simp [PyData.depth]⟩
    | int i => cases e; unfold RepV at r; subst r; exact ⟨.int i, by simp [PyData.canLay0], by simp [PyData.depth]⟩
    | str x =>
      unfold toPy at e
      by_cases hx : PyData.strOk x = true
      · simp only [if_pos hx] at e
        cases e
        unfold RepV at r
        subst r
        exact ⟨.str x, by simp [PyData.canLay0, hx], by simp [PyData.depth]⟩
      · simp only [if_neg hx] at e
        cases e
    | tup ds =>
      unfold toPy at e
      unfold RepV at r
      obtain ⟨a, us, rfl, h1, h2⟩ := r
      cases q : toPyL (toPy S n) ds with
      | none => simp only [q] at e; cases e
      | some ps =>
        simp only [q] at e
        cases e
        obtain ⟨b1, b2, b3⟩ := all ds us ps h2 q
        refine ⟨.tup h1 b1, by simp [PyData.canLay0, b2], ?_⟩
        have := depthAll_le b3
        simp only [PyData.depth]
        omega
    | lst l =>
      unfold toPy at e
      unfold RepV at r
      obtain ⟨a, rfl, h1⟩ := r
      cases q0 : S[l]? with
      | none => simp only [q0] at e; cases e
      | some ds =>
        obtain ⟨a', us, g1, g2, g3⟩ := rs.at_ l ds q0
        rw [h1] at g1
        cases g1
        cases q : toPyL (toPy S n) ds with
        | none => simp only [q0, Option.bind_some, q] at e; cases e
        | some ps =>
          simp only [q0, Option.bind_some, q] at e
          cases e
          obtain ⟨b1, b2, b3⟩ := all ds us ps g3 q
          refine ⟨.lst (SqL.of g2) b1, by simp [PyData.canLay0, b2], ?_⟩
          have := depthAll_le b3
          simp only [PyData.depth]
          omega
    | frl ds =>
      unfold toPy at e
      unfold RepV at r
      obtain ⟨a, us, rfl, h1, h2⟩ := r
      cases q : toPyL (toPy S n) ds with
      | none => simp only [q] at e; cases e
      | some ps =>
        simp only [q] at e
        cases e
        obtain ⟨b1, b2, b3⟩ := all ds us ps h2 q
        refine ⟨.lst h1.sq b1, by simp [PyData.canLay0, b2], ?_⟩
        have := depthAll_le b3
        simp only [PyData.depth]
        omega
    | exn n' ns ds => cases e
def deep : Nat := 40
def dEq : Op2 := fun d e S => match toPy S deep d, toPy S deep e with
  | some p, some q => some (.bl (PyData.eqv p q), S)
  | _, _ => none
def dNe : Op2 := fun d e S => match toPy S deep d, toPy S deep e with
  | some p, some q => some (.bl (!PyData.eqv p q), S)
  | _, _ => none
theorem shaped_deep {p : PyData} (h1 : p.canLay0 = true) (h2 : p.depth ≤ deep) : SeqAt.shaped p = true := by
  unfold SeqAt.shaped
  rw [h1, Bool.true_and, decide_eq_true_eq]
  exact Nat.le_trans h2 (by decide)
theorem od_eq (hu : X.A.units + 64 < cLine) : OpD X c (compareOp .Eq) dEq := fun kk => by
  refine OpR.imp (op_eqD hu) fun x y H Q ⟨φ, S, d, e, rs, r1, r2, o⟩ => ?_
  unfold dEq at o
  cases q1 : toPy S deep d with
  | none => simp only [q1] at o; exact o.elim
  | some p =>
    cases q2 : toPy S deep e with
    | none => simp only [q1, q2] at o; exact o.elim
    | some q =>
      simp only [q1, q2] at o
      obtain ⟨a1, a2, a3⟩ := toPy_ok rs _ _ _ _ r1 q1
      obtain ⟨b1, b2, b3⟩ := toPy_ok rs _ _ _ _ r2 q2
      rw [kk] at a1 b1
      exact ⟨p, q, a1, b1, shaped_deep a2 a3, shaped_deep b2 b3, o φ H _ (.refl _ _) rs rep_bl⟩
theorem od_ne (hu : X.A.units + 64 < cLine) : OpD X c (compareOp .NotEq) dNe := fun kk => by
  refine OpR.imp (op_neD hu) fun x y H Q ⟨φ, S, d, e, rs, r1, r2, o⟩ => ?_
  unfold dNe at o
  cases q1 : toPy S deep d with
  | none => simp only [q1] at o; exact o.elim
  | some p =>
    cases q2 : toPy S deep e with
    | none => simp only [q1, q2] at o; exact o.elim
    | some q =>
      simp only [q1, q2] at o
      obtain ⟨a1, a2, a3⟩ := toPy_ok rs _ _ _ _ r1 q1
      obtain ⟨b1, b2, b3⟩ := toPy_ok rs _ _ _ _ r2 q2
      rw [kk] at a1 b1
      exact ⟨p, q, a1, b1, shaped_deep a2 a3, shaped_deep b2 b3, o φ H _ (.refl _ _) rs rep_bl⟩
/-! subscripts -/
def dIx : Op2 := fun d e S => match e with
  | .int i => match d with
    | .tup xs => (atI xs i).map fun v => (v, S)
    | .frl xs => (atI xs i).map fun v => (v, S)
    | .lst l => (S[l]?).bind fun xs => (atI xs i).map fun v => (v, S)
    | .str z => if z.length ≤ most then (atI z.cps.toList i).map fun k => (.str ⟨#[k]⟩, S) else none
    | _ => none
  | _ => none
theorem RepL.at {H : Hp} {φ : List Addr} {ds : List D} {vs : List V} {i : Int} {d : D} (r : RepL c H φ ds vs) (e : atI ds i = some d) : ∃ v, atI vs i = some v ∧ RepV c H φ d v := by
  unfold atI at e ⊢
  rw [r.length] at e
  cases q : ixN vs.length i with
  | none => rw [q] at e; cases e
  | some j =>
    rw [q] at e
    exact r.get e
theorem ixd : IxD X c dIx := fun kk => by
  have h0 : IxR X (fun x y H Q => rIxL X.K x y H Q ∨ rIxT X.K x y H Q ∨ rIxS x y H Q) := ix_seq
  intro value slice pins s σ H x y v u Q I rx ry ⟨φ, S, d, e, rs, r1, r2, o⟩ hs
  refine h0 value slice pins s σ H x y v u Q I rx ry ?_ hs
  cases e <;> first
    | exact False.elim o
    | skip
  rename_i i
  unfold RepV at r2
  subst r2
  cases d <;> first
    | exact False.elim o
    | skip
  · rename_i z
    unfold RepV at r1
    subst r1
    unfold dIx at o
    by_cases hz : z.length ≤ most
    · simp only [if_pos hz] at o
      cases q : atI z.cps.toList i with
      | none => rw [q] at o; exact o.elim
      | some k =>
        rw [q] at o
        exact .inr (.inr ⟨z, i, k, rfl, rfl, most_le hz, q, o φ H _ (.refl _ _) rs rep_str⟩)
    · simp only [if_neg hz] at o
      exact o.elim
  · rename_i xs
    unfold RepV at r1
    obtain ⟨a, us, rfl, h1, h2⟩ := r1
    have o : OutO c H φ (RepV c) ((atI xs i).map fun v => (v, S)) Q := o
    cases q : atI xs i with
    | none => rw [q] at o; exact o.elim
    | some d =>
      rw [q] at o
      obtain ⟨w, g1, g2⟩ := h2.at q
      exact .inr (.inl ⟨a, us, i, w, rfl, rfl, by rw [← kk]; exact h1, g1, o φ H _ (.refl _ _) rs g2⟩)
  · rename_i l
    unfold RepV at r1
    obtain ⟨a, rfl, h1⟩ := r1
    have o : OutO c H φ (RepV c) ((S[l]?).bind fun xs => (atI xs i).map fun v => (v, S)) Q := o
    cases q0 : S[l]? with
    | none => rw [q0] at o; exact o.elim
    | some xs =>
      rw [q0, Option.bind_some] at o
      cases q : atI xs i with
      | none => rw [q] at o; exact o.elim
      | some d =>
        rw [q] at o
        obtain ⟨a', us, g1, g2, g3⟩ := rs.at_ l xs q0
        rw [h1] at g1
        cases g1
        obtain ⟨w, k1, k2⟩ := g3.at q
        exact .inl ⟨a, us, i, w, rfl, rfl, SqL.of g2, k1, o φ H _ (.refl _ _) rs k2⟩
  · rename_i xs
    unfold RepV at r1
    obtain ⟨a, us, rfl, h1, h2⟩ := r1
    have o : OutO c H φ (RepV c) ((atI xs i).map fun v => (v, S)) Q := o
    cases q : atI xs i with
    | none => rw [q] at o; exact o.elim
    | some d =>
      rw [q] at o
      obtain ⟨w, g1, g2⟩ := h2.at q
      exact .inl ⟨a, us, i, w, rfl, rfl, by rw [← kk]; exact h1.sq, g1, o φ H _ (.refl _ _) rs g2⟩
/-! slices -/
def cutD (xs : List D) (lo hi : Option Int) : List D := (xs.drop (HT.sIx xs.length 0 lo)).take (HT.sIx xs.length xs.length hi - HT.sIx xs.length 0 lo)
def dSl (d : D) (lo hi : Option Int) (S : Sto) : Option (D × Sto) := match d with
  | .lst l => (S[l]?).map fun xs => (.lst S.length, S ++ [cutD xs lo hi])
  | .tup xs => some (.tup (cutD xs lo hi), S)
  | _ => none
def eSl (e : Ev) (lo hi : Option Ev) : Ev := fun ρ S => (e ρ S).bind fun d S1 => match lo, hi with
  | none, none => lift (dSl d none none S1)
  | some l, none => (l ρ S1).bind fun x S2 => match x with
    | .int i => lift (dSl d (some i) none S2)
    | _ => .stuck
  | none, some h => (h ρ S1).bind fun y S2 => match y with
    | .int j => lift (dSl d none (some j) S2)
    | _ => .stuck
  | some l, some h => (l ρ S1).bind fun x S2 => match x with
    | .int i => (h ρ S2).bind fun y S3 => match y with
      | .int j => lift (dSl d (some i) (some j) S3)
      | _ => .stuck
    | _ => .stuck
theorem RepL.cut {H : Hp} {φ : List Addr} {ds : List D} {vs : List V} (r : RepL c H φ ds vs) (lo hi : Option Int) : RepL c H φ (cutD ds lo hi) (cutV vs lo hi) := by
  unfold cutD cutV
  rw [r.length]
  exact (r.drop _).take _
theorem sl_read {K : PySem.W.Frag} {d : D} {v : V} {lo hi : Option Int} {H : Hp} {φ : List Addr} {S : Sto} {Q : VK} (kk : c.K = K) (rs : RepS c H φ S) (r : RepV c H φ d v) (o : OutO c H φ (RepV c) (dSl d lo hi S) Q) : rSlL K v lo hi H Q ∨ rSlA K v lo hi H Q := by
  cases d <;> first
    | exact False.elim o
    | skip
  · rename_i xs
    unfold RepV at r
    obtain ⟨a, us, rfl, h1, h2⟩ := r
    have cut := h2.cut lo hi
    refine .inr ⟨a, us, rfl, by rw [← kk]; exact h1, fun hw => ?_, fun _ => new_tup rs cut o⟩
    have ew : cutD xs lo hi = xs := by
      unfold cutD
      rw [h2.length, hw.1, hw.2, List.drop_zero, Nat.sub_zero, ← h2.length, List.take_length]
    have o : OutO c H φ (RepV c) (some (D.tup (cutD xs lo hi), S)) Q := o
    rw [ew] at o
    exact old_tup rs h1 h2 o
  · rename_i l
    unfold RepV at r
    obtain ⟨a, rfl, h1⟩ := r
    have o : OutO c H φ (RepV c) ((S[l]?).map fun xs => (D.lst S.length, S ++ [cutD xs lo hi])) Q := o
    cases q0 : S[l]? with
    | none => rw [q0] at o; exact o.elim
    | some xs =>
      rw [q0] at o
      obtain ⟨a', us, g1, g2, g3⟩ := rs.at_ l xs q0
      rw [h1] at g1
      cases g1
      exact .inl ⟨a, us, rfl, SqL.of g2, new_list rs (g3.cut lo hi) o⟩
theorem slr : SlR X (fun x lo hi H Q => rSlL X.K x lo hi H Q ∨ rSlA X.K x lo hi H Q) := SlR.or sl_list sl_tupA
theorem me_sl {p2 : Pos} (h : ME X c W a ea) : ME X c W (.Subscript a (.Slice none none none p2) pos) (eSl ea none none) := fun s => by
  refine PE.imp (pe_slice slr (h s) po_none po_none) fun σ H Q ⟨φ, ρ, S, re, rs, o⟩ => ?_
  exact ⟨φ, ρ, S, re, rs, Out.bind o fun x S1 φ1 H1 v e1 s1 r1 o1 => sl_read s.kk s1 r1 (OutO.of o1)⟩
theorem me_slL {p2 : Pos} {lo : Expr} {el : Ev} (h : ME X c W a ea) (hl : ME X c W lo el) : ME X c W (.Subscript a (.Slice (some lo) none none p2) pos) (eSl ea (some el) none) := fun s => by
  refine PE.imp (pe_slice slr (h s) (po_some (hl s)) po_none) fun σ H Q ⟨φ, ρ, S, re, rs, o⟩ => ?_
  refine ⟨φ, ρ, S, re, rs, Out.bind o fun x S1 φ1 H1 v e1 s1 r1 o1 => ?_⟩
  refine ⟨φ1, ρ, S1, re.ext rs e1, s1, Out.bind o1 fun y S2 φ2 H2 w e2 s2 r2 o2 => ?_⟩
  cases y <;> first
    | exact False.elim o2
    | skip
  rename_i i
  unfold RepV at r2
  exact ⟨i, r2, sl_read s.kk s2 (RepV.ext s1.ls e2 _ _ r1) (OutO.of o2)⟩
theorem me_slH {p2 : Pos} {hi : Expr} {eh : Ev} (h : ME X c W a ea) (hh : ME X c W hi eh) : ME X c W (.Subscript a (.Slice none (some hi) none p2) pos) (eSl ea none (some eh)) := fun s => by
  refine PE.imp (pe_slice slr (h s) po_none (po_some (hh s))) fun σ H Q ⟨φ, ρ, S, re, rs, o⟩ => ?_
  refine ⟨φ, ρ, S, re, rs, Out.bind o fun x S1 φ1 H1 v e1 s1 r1 o1 => ?_⟩
  refine ⟨φ1, ρ, S1, re.ext rs e1, s1, Out.bind o1 fun y S2 φ2 H2 w e2 s2 r2 o2 => ?_⟩
  cases y <;> first
    | exact False.elim o2
    | skip
  rename_i i
  unfold RepV at r2
  exact ⟨i, r2, sl_read s.kk s2 (RepV.ext s1.ls e2 _ _ r1) (OutO.of o2)⟩
theorem me_slB {p2 : Pos} {lo hi : Expr} {el eh : Ev} (h : ME X c W a ea) (hl : ME X c W lo el) (hh : ME X c W hi eh) : ME X c W (.Subscript a (.Slice (some lo) (some hi) none p2) pos) (eSl ea (some el) (some eh)) := fun s => by
  refine PE.imp (pe_slice slr (h s) (po_some (hl s)) (po_some (hh s))) fun σ H Q ⟨φ, ρ, S, re, rs, o⟩ => ?_
  refine ⟨φ, ρ, S, re, rs, Out.bind o fun x S1 φ1 H1 v e1 s1 r1 o1 => ?_⟩
  refine ⟨φ1, ρ, S1, re.ext rs e1, s1, Out.bind o1 fun y S2 φ2 H2 w e2 s2 r2 o2 => ?_⟩
  cases y <;> first
    | exact False.elim o2
    | skip
  rename_i i
  unfold RepV at r2
  refine ⟨i, r2, φ2, ρ, S2, (re.ext rs e1).ext s1 e2, s2, Out.bind o2 fun y S3 φ3 H3 w e3 s3 r3 o3 => ?_⟩
  cases y <;> first
    | exact False.elim o3
    | skip
  rename_i j
  unfold RepV at r3
  exact ⟨j, r3, sl_read s.kk s3 (RepV.ext s1.ls (e2.trans e3) _ _ r1) (OutO.of o3)⟩
def dRev (d : D) (S : Sto) : Option (D × Sto) := match d with
  | .lst l => (S[l]?).map fun xs => (.lst S.length, S ++ [xs.reverse])
  | _ => none
theorem me_rev {k : Nat} {p1 p2 p3 : Pos} (h : ME X c W a ea) : ME X c W (.Subscript a (.Slice none none (some (.UnaryOp .USub (.Constant (.int 1) k p1) p2)) p3) pos) (eU dRev ea) := fun s => by
  refine PE.imp (pe_revL (h s)) fun σ H Q ⟨φ, ρ, S, re, rs, o⟩ => ?_
  refine ⟨φ, ρ, S, re, rs, Out.bind o fun x S1 φ1 H1 v e1 s1 r1 o1 => ?_⟩
  replace o1 := OutO.of o1
  cases x <;> first
    | exact False.elim o1
    | skip
  rename_i l
  unfold RepV at r1
  obtain ⟨a', rfl, h1⟩ := r1
  have o1 : OutO c H1 φ1 (RepV c) ((S1[l]?).map fun xs => (D.lst S1.length, S1 ++ [xs.reverse])) Q := o1
  cases q0 : S1[l]? with
  | none => rw [q0] at o1; exact o1.elim
  | some xs =>
    rw [q0] at o1
    obtain ⟨a2, us, g1, g2, g3⟩ := s1.at_ l xs q0
    rw [h1] at g1
    cases g1
    exact ⟨a', us, rfl, SqL.of g2, new_list s1 g3.reverse o1⟩
end
end MP
end
section
set_option Elab.async false
set_option linter.all false
set_option maxRecDepth 100000
set_option maxHeartbeats 4000000
/-! MP6: what is built in: calls and methods, on data. -/
namespace MP
open PySem PySem.Spec PyProof.Rows L2

section
variable {X : Cx} {c : Cz} {W : WX} {a b d : Expr} {ea eb ed : Ev} {pos : Pos} {es : List Expr} {ra : EvA} {x : Str} {p : Pos}
abbrev OpL := List D → Sto → Option (D × Sto)
/-- the items of a list or a tuple -/
def itemsOf (d : D) (S : Sto) : Option (List D) := match d with
  | .lst l => S[l]?
  | .tup xs => some xs
  | .frl xs => some xs
  | _ => none
theorem items_at {d : D} {v : V} {xs : List D} {H : Hp} {φ : List Addr} {S : Sto} (rs : RepS c H φ S) (r : RepV c H φ d v) (e : itemsOf d S = some xs) :
    ∃ q us, v = .ref q ∧ RepL c H φ xs us ∧ ((isTup d = false ∧ SqL c.K H q us) ∨ (isTup d = true ∧ SqT c.K H q us)) := by
  cases d <;> first
    | (cases e; done)
    | skip
  · cases e
    unfold RepV at r
    obtain ⟨q, us, rfl, h1, h2⟩ := r
    exact ⟨q, us, rfl, h2, .inr ⟨rfl, h1⟩⟩
  · rename_i l
    unfold RepV at r
    obtain ⟨q, rfl, h1⟩ := r
    obtain ⟨q', us, g1, g2, g3⟩ := rs.at_ l xs e
    rw [h1] at g1
    cases g1
    exact ⟨q, us, rfl, g3, .inl ⟨rfl, SqL.of g2⟩⟩
  · cases e
    unfold RepV at r
    obtain ⟨q, us, rfl, h1, h2⟩ := r
    exact ⟨q, us, rfl, h2, .inl ⟨rfl, h1.sq⟩⟩
theorem CallR.imp {f : Value} {r r' : List V → Hp → VK → Prop} (h : CallR X f r) (k : ∀ x H Q, r' x H Q → r x H Q) : CallR X f r' := fun pins s σ H x u Q I rx q => h pins s σ H x u Q I rx (k _ _ _ q)
theorem CallR.or {f : Value} {r r' : List V → Hp → VK → Prop} (h : CallR X f r) (h' : CallR X f r') : CallR X f (fun x H Q => r x H Q ∨ r' x H Q) := fun pins s σ H x u Q I rx q => by
  rcases q with q | q
  · exact h pins s σ H x u Q I rx q
  · exact h' pins s σ H x u Q I rx q
theorem RepL.one {H : Hp} {φ : List Addr} {d : D} {vs : List V} (r : RepL c H φ [d] vs) : ∃ v, vs = [v] ∧ RepV c H φ d v := by
  unfold RepL at r
  obtain ⟨v, vr, rfl, h1, h2⟩ := r
  unfold RepL at h2
  subst h2
  exact ⟨v, rfl, h1⟩
theorem RepL.two {H : Hp} {φ : List Addr} {d e : D} {vs : List V} (r : RepL c H φ [d, e] vs) : ∃ v w, vs = [v, w] ∧ RepV c H φ d v ∧ RepV c H φ e w := by
  unfold RepL at r
  obtain ⟨v, vr, rfl, h1, h2⟩ := r
  obtain ⟨w, rfl, h3⟩ := RepL.one h2
  exact ⟨v, w, rfl, h1, h3⟩
/-! len -/
def dLen : OpL := fun ds S => match ds with
  | [.str z] => if z.length ≤ most then some (.int z.length, S) else none
  | [d] => (itemsOf d S).map fun xs => (.int xs.length, S)
  | _ => none
theorem cd_len : CallD X c (.builtin "len") dLen := fun kk => by
  refine CallR.imp (CallR.or call_len_seq call_len_str) fun vs H Q ⟨φ, S, ds, rs, r, o⟩ => ?_
  unfold dLen at o
  split at o
  · rename_i z
    obtain ⟨v, rfl, rv⟩ := r.one
    replace r := rv
    unfold RepV at r
    subst r
    by_cases hz : z.length ≤ most
    · rw [if_pos hz] at o
      exact .inr ⟨z, rfl, most_le hz, o φ H _ (.refl _ _) rs rep_int⟩
    · rw [if_neg hz] at o
      exact o.elim
  · rename_i d _
    obtain ⟨v, rfl, rv⟩ := r.one
    replace r := rv
    cases q : itemsOf d S with
    | none => rw [q] at o; exact o.elim
    | some xs =>
      rw [q] at o
      obtain ⟨q', us, rfl, k1, k2⟩ := items_at rs r q
      refine .inl ⟨q', us, rfl, ?_, ?_⟩
      · rw [← kk]
        rcases k2 with ⟨_, k2⟩ | ⟨_, k2⟩
        · exact .inl k2
        · exact .inr k2
      · rw [← k1.length]
        exact o φ H _ (.refl _ _) rs rep_int
  · exact o.elim
/-! list(x), tuple(x) -/
def dListOf : OpL := fun ds S => match ds with
  | [d] => (itemsOf d S).map fun xs => (.lst S.length, S ++ [xs])
  | _ => none
theorem cd_list : CallD X c (.type "list") dListOf := fun kk => by
  refine CallR.imp call_list_of fun vs H Q ⟨φ, S, ds, rs, r, o⟩ => ?_
  unfold dListOf at o
  split at o
  · rename_i d
    obtain ⟨v, rfl, rv⟩ := r.one
    replace r := rv
    cases q : itemsOf d S with
    | none => rw [q] at o; exact o.elim
    | some xs =>
      rw [q] at o
      obtain ⟨q', us, rfl, k1, k2⟩ := items_at rs r q
      refine ⟨q', us, rfl, ?_, new_list rs k1 o⟩
      rw [← kk]
      rcases k2 with ⟨_, k2⟩ | ⟨_, k2⟩
      · exact .inl k2
      · exact .inr k2
  · exact o.elim
def dTupOf : OpL := fun ds S => match ds with
  | [d] => (itemsOf d S).map fun xs => (.tup xs, S)
  | _ => none
theorem cd_tuple : CallD X c (.type "tuple") dTupOf := fun kk => by
  refine CallR.imp call_tuple_of fun vs H Q ⟨φ, S, ds, rs, r, o⟩ => ?_
  unfold dTupOf at o
  split at o
  · rename_i d
    obtain ⟨v, rfl, rv⟩ := r.one
    replace r := rv
    cases q : itemsOf d S with
    | none => rw [q] at o; exact o.elim
    | some xs =>
      rw [q] at o
      obtain ⟨q', us, rfl, k1, k2⟩ := items_at rs r q
      refine ⟨q', us, rfl, ?_⟩
      rw [← kk]
      rcases k2 with ⟨_, k2⟩ | ⟨_, k2⟩
      · exact .inl ⟨k2, new_tup rs k1 o⟩
      · exact .inr ⟨k2, old_tup rs k2 k1 o⟩
  · exact o.elim
/-! int(x), abs(x), max, min of two, str of an int -/
def dInt : OpL := fun ds S => match ds with
  | [.int i] => some (.int i, S)
  | [.bl k] => some (.int (if k = true then 1 else 0), S)
  | _ => none
theorem cd_int : CallD X c (.type "int") dInt := fun kk => by
  refine CallR.imp call_int1 fun vs H Q ⟨φ, S, ds, rs, r, o⟩ => ?_
  unfold dInt at o
  split at o
  · obtain ⟨v, rfl, rv⟩ := r.one
    replace r := rv
    unfold RepV at r
    subst r
    exact .inl ⟨_, rfl, o φ H _ (.refl _ _) rs rep_int⟩
  · obtain ⟨v, rfl, rv⟩ := r.one
    replace r := rv
    unfold RepV at r
    subst r
    exact .inr ⟨_, rfl, o φ H _ (.refl _ _) rs rep_int⟩
  · exact o.elim
def dAbs : OpL := fun ds S => match ds with
  | [.int i] => some (.int (i.natAbs : Int), S)
  | _ => none
theorem cd_abs : CallD X c (.builtin "abs") dAbs := fun kk => by
  refine CallR.imp call_abs fun vs H Q ⟨φ, S, ds, rs, r, o⟩ => ?_
  unfold dAbs at o
  split at o
  · rename_i i
    obtain ⟨v, rfl, rv⟩ := r.one
    replace r := rv
    unfold RepV at r
    subst r
    refine ⟨_, rfl, o φ H _ (.refl _ _) rs ?_⟩
    have e : (if i < 0 then -i else i) = (i.natAbs : Int) := by
      split <;> omega
    rw [e]
    exact rep_int
  · exact o.elim
def dMax2 : OpL := fun ds S => match ds with
  | [.int i, .int j] => some (.int (if j > i then j else i), S)
  | _ => none
theorem cd_max2 (hc : X.calm = true) : CallD X c (.builtin "max") dMax2 := fun kk => by
  refine CallR.imp (call_max2 hc) fun vs H Q ⟨φ, S, ds, rs, r, o⟩ => ?_
  unfold dMax2 at o
  split at o
  · obtain ⟨v, w, rfl, r1, r2⟩ := r.two
    unfold RepV at r1 r2
    subst r1 r2
    exact ⟨_, _, rfl, o φ H _ (.refl _ _) rs rep_int⟩
  · exact o.elim
def dMin2 : OpL := fun ds S => match ds with
  | [.int i, .int j] => some (.int (if j < i then j else i), S)
  | _ => none
theorem cd_min2 (hc : X.calm = true) : CallD X c (.builtin "min") dMin2 := fun kk => by
  refine CallR.imp (call_min2 hc) fun vs H Q ⟨φ, S, ds, rs, r, o⟩ => ?_
  unfold dMin2 at o
  split at o
  · obtain ⟨v, w, rfl, r1, r2⟩ := r.two
    unfold RepV at r1 r2
    subst r1 r2
    exact ⟨_, _, rfl, o φ H _ (.refl _ _) rs rep_int⟩
  · exact o.elim
def dStr : OpL := fun ds S => match ds with
  | [.int i] => if i.natAbs.log2 < 1920 then some (.str (toString i), S) else none
  | _ => none
theorem cd_str : CallD X c (.type "str") dStr := fun kk => by
  refine CallR.imp call_str_int fun vs H Q ⟨φ, S, ds, rs, r, o⟩ => ?_
  unfold dStr at o
  split at o
  · rename_i i
    obtain ⟨v, rfl, rv⟩ := r.one
    replace r := rv
    unfold RepV at r
    subst r
    by_cases hz : i.natAbs.log2 < 1920
    · rw [if_pos hz] at o
      exact ⟨_, rfl, hz, o φ H _ (.refl _ _) rs rep_str⟩
    · rw [if_neg hz] at o
      exact o.elim
  · exact o.elim
/-! math.gcd, math.lcm of two -/
def dGcd : OpL := fun ds S => match ds with
  | [.int i, .int j] => some (.int ((Nat.gcd i.natAbs j.natAbs : Nat) : Int), S)
  | _ => none
theorem cd_gcd : CallD X c (.builtin "math.gcd") dGcd := fun kk => by
  refine CallR.imp cr_gcd fun vs H Q ⟨φ, S, ds, rs, r, o⟩ => ?_
  unfold dGcd at o
  split at o
  · obtain ⟨v, w, rfl, r1, r2⟩ := r.two
    unfold RepV at r1 r2
    subst r1 r2
    exact ⟨_, _, rfl, o φ H _ (.refl _ _) rs rep_int⟩
  · exact o.elim
def lcmOk (i j : Int) : Prop := i.natAbs < 2 ^ 13400 ∧ j.natAbs < 2 ^ 13400
noncomputable instance (i j : Int) : Decidable (lcmOk i j) := Classical.propDecidable _
noncomputable def dLcm : OpL := fun ds S => match ds with
  | [.int i, .int j] => if lcmOk i j then some (.int ((Nat.lcm i.natAbs j.natAbs : Nat) : Int), S) else none
  | _ => none
theorem log2_lt_of_pow {n k : Nat} (h : n < 2 ^ k) (h0 : 0 < k) : n.log2 < k := PySem.Flt.log2_lt_of h0 h
theorem cr_lcm : CallR X (.builtin "math.lcm") (fun vs H Q => ∃ i j : Int, vs = [.int i, .int j] ∧ lcmOk i j ∧ Q (.int ((Nat.lcm i.natAbs j.natAbs : Nat) : Int)) H) := by
  intro pins s σ H vs us Q I r ⟨i, j, e, ok, q⟩
  subst e
  obtain ⟨t, u, rfl⟩ := Vals.int2 r
  have g1 : ∀ n : Nat, n < 2 ^ 13400 → ¬ (max 1 n).log2 / 30 + 1 > 450 := fun n hn => by
    have : (max 1 n).log2 < 13400 := log2_lt_of_pow (by
      rcases Nat.le_total 1 n with h | h
      · rw [Nat.max_eq_right h]; exact hn
      · rw [Nat.max_eq_left h]; exact Nat.one_lt_two_pow (by decide)) (by decide)
    omega
  have g2 : ¬ (max i.natAbs j.natAbs).log2 / 30 + 1 > 450 := by
    have : (max i.natAbs j.natAbs).log2 < 13400 := log2_lt_of_pow (by
      rcases Nat.le_total i.natAbs j.natAbs with h | h
      · rw [Nat.max_eq_right h]; exact ok.2
      · rw [Nat.max_eq_left h]; exact ok.1) (by decide)
    omega
  have e1 : (Nat.lcm 1 i.natAbs).lcm j.natAbs = Nat.lcm i.natAbs j.natAbs := by rw [Nat.lcm_one_left]
  have sz : ((((Nat.lcm 1 i.natAbs).lcm j.natAbs : Nat) : Int)).natAbs.log2 < bitsLine := by
    rw [e1, Int.natAbs_natCast]
    have hb : bitsLine = 134217728 := by decide
    have hle : Nat.lcm i.natAbs j.natAbs < 2 ^ 26800 := by
      by_cases hz : i.natAbs = 0
      · rw [hz, Nat.lcm_zero_left]; exact Nat.two_pow_pos _
      by_cases hz2 : j.natAbs = 0
      · rw [hz2, Nat.lcm_zero_right]; exact Nat.two_pow_pos _
      have : Nat.lcm i.natAbs j.natAbs ≤ i.natAbs * j.natAbs := Nat.le_of_dvd (Nat.mul_pos (Nat.pos_of_ne_zero hz) (Nat.pos_of_ne_zero hz2)) (Nat.lcm_dvd (Nat.dvd_mul_right _ _) (Nat.dvd_mul_left _ _))
      refine Nat.lt_of_le_of_lt this ?_
      have e2 : (2 : Nat) ^ 26800 = 2 ^ 13400 * 2 ^ 13400 := by rw [← Nat.pow_add]
      rw [e2]
      exact Nat.mul_lt_mul'' ok.1 ok.2
    have := log2_lt_of_pow hle (by decide)
    omega
  refine call_function_meets PySem.W.MGF.kind_lcm PySem.W.MGF.plain_lcm PySem.W.MGF.entry_lcm (PySem.W.MGF.args_lcm _ _) (PySem.W.mg_run_lcm i t j u (g1 _ ok.1) g2 sz).meets ?_
  rw [e1]
  exact ⟨.int _, H, I.tok _, ⟨_, rfl⟩, q⟩
theorem cd_lcm : CallD X c (.builtin "math.lcm") dLcm := fun kk => by
  refine CallR.imp cr_lcm fun vs H Q ⟨φ, S, ds, rs, r, o⟩ => ?_
  unfold dLcm at o
  split at o
  · rename_i i j
    obtain ⟨v, w, rfl, r1, r2⟩ := r.two
    unfold RepV at r1 r2
    subst r1 r2
    by_cases hz : lcmOk i j
    · rw [if_pos hz] at o
      exact ⟨_, _, rfl, hz, o φ H _ (.refl _ _) rs rep_int⟩
    · rw [if_neg hz] at o
      exact o.elim
  · exact o.elim
/-! sum of ints, all and any of truth values, of a list -/
def intsOf : List D → Option (List Int)
  | [] => some []
  | .int i :: ds => (intsOf ds).map fun is => i :: is
  | _ :: _ => none
def boolsOf : List D → Option (List Bool)
  | [] => some []
  | .bl i :: ds => (boolsOf ds).map fun is => i :: is
  | _ :: _ => none
theorem intsOf_rep {H : Hp} {φ : List Addr} : ∀ {ds : List D} {vs : List V} {is : List Int}, RepL c H φ ds vs → intsOf ds = some is → vs = is.map V.int
  | [], vs, is, r, e => by
    unfold RepL at r
    cases e
    exact r
  | d :: ds, vs, is, r, e => by
    unfold RepL at r
    obtain ⟨v, vr, rfl, r1, r2⟩ := r
    cases d <;> first
      | (cases e; done)
      | skip
    rename_i i
    have e : (intsOf ds).map (fun is => i :: is) = some is := e
    cases q : intsOf ds with
    | none => rw [q] at e; cases e
    | some js =>
      rw [q] at e
      cases e
      unfold RepV at r1
      rw [r1, intsOf_rep r2 q]
      rfl
theorem boolsOf_rep {H : Hp} {φ : List Addr} : ∀ {ds : List D} {vs : List V} {is : List Bool}, RepL c H φ ds vs → boolsOf ds = some is → vs = is.map V.bl
  | [], vs, is, r, e => by
    unfold RepL at r
    cases e
    exact r
  | d :: ds, vs, is, r, e => by
    unfold RepL at r
    obtain ⟨v, vr, rfl, r1, r2⟩ := r
    cases d <;> first
      | (cases e; done)
      | skip
    rename_i i
    have e : (boolsOf ds).map (fun is => i :: is) = some is := e
    cases q : boolsOf ds with
    | none => rw [q] at e; cases e
    | some js =>
      rw [q] at e
      cases e
      unfold RepV at r1
      rw [r1, boolsOf_rep r2 q]
      rfl
def dSum : OpL := fun ds S => match ds with
  | [.lst l] => (S[l]?).bind fun xs => (intsOf xs).map fun is => (.int is.sum, S)
  | _ => none
def dAll : OpL := fun ds S => match ds with
  | [.lst l] => (S[l]?).bind fun xs => (boolsOf xs).map fun is => (.bl (is.all id), S)
  | _ => none
def dAny : OpL := fun ds S => match ds with
  | [.lst l] => (S[l]?).bind fun xs => (boolsOf xs).map fun is => (.bl (is.any id), S)
  | _ => none
theorem lst_at {l : Nat} {v : V} {xs : List D} {H : Hp} {φ : List Addr} {S : Sto} (rs : RepS c H φ S) (r : RepV c H φ (.lst l) v) (e : S[l]? = some xs) : ∃ q us, v = .ref q ∧ φ[l]? = some q ∧ H q = some (.lst us) ∧ RepL c H φ xs us := by
  unfold RepV at r
  obtain ⟨q, rfl, h1⟩ := r
  obtain ⟨q', us, g1, g2, g3⟩ := rs.at_ l xs e
  rw [h1] at g1
  cases g1
  exact ⟨q, us, rfl, h1, g2, g3⟩
theorem cd_sum (hc : X.calm = true) : CallD X c (.builtin "sum") dSum := fun kk => by
  refine CallR.imp (cr_sum hc) fun vs H Q ⟨φ, S, ds, rs, r, o⟩ => ?_
  unfold dSum at o
  split at o
  · rename_i l
    obtain ⟨v, rfl, rv⟩ := r.one
    replace r := rv
    cases q : S[l]? with
    | none => rw [q] at o; exact o.elim
    | some xs =>
      rw [q, Option.bind_some] at o
      cases q2 : intsOf xs with
      | none => rw [q2] at o; exact o.elim
      | some is =>
        rw [q2] at o
        obtain ⟨q', us, rfl, k0, k1, k2⟩ := lst_at rs r q
        exact ⟨q', is, rfl, SqL.of (by rw [k1, intsOf_rep k2 q2]), o φ H _ (.refl _ _) rs rep_int⟩
  · exact o.elim
theorem cd_all (hc : X.calm = true) : CallD X c (.builtin "all") dAll := fun kk => by
  refine CallR.imp (cr_all hc) fun vs H Q ⟨φ, S, ds, rs, r, o⟩ => ?_
  unfold dAll at o
  split at o
  · rename_i l
    obtain ⟨v, rfl, rv⟩ := r.one
    replace r := rv
    cases q : S[l]? with
    | none => rw [q] at o; exact o.elim
    | some xs =>
      rw [q, Option.bind_some] at o
      cases q2 : boolsOf xs with
      | none => rw [q2] at o; exact o.elim
      | some is =>
        rw [q2] at o
        obtain ⟨q', us, rfl, k0, k1, k2⟩ := lst_at rs r q
        exact ⟨q', is, rfl, SqL.of (by rw [k1, boolsOf_rep k2 q2]), o φ H _ (.refl _ _) rs rep_bl⟩
  · exact o.elim
theorem cd_any (hc : X.calm = true) : CallD X c (.builtin "any") dAny := fun kk => by
  refine CallR.imp (cr_any hc) fun vs H Q ⟨φ, S, ds, rs, r, o⟩ => ?_
  unfold dAny at o
  split at o
  · rename_i l
    obtain ⟨v, rfl, rv⟩ := r.one
    replace r := rv
    cases q : S[l]? with
    | none => rw [q] at o; exact o.elim
    | some xs =>
      rw [q, Option.bind_some] at o
      cases q2 : boolsOf xs with
      | none => rw [q2] at o; exact o.elim
      | some is =>
        rw [q2] at o
        obtain ⟨q', us, rfl, k0, k1, k2⟩ := lst_at rs r q
        exact ⟨q', is, rfl, SqL.of (by rw [k1, boolsOf_rep k2 q2]), o φ H _ (.refl _ _) rs rep_bl⟩
  · exact o.elim
/-! isinstance(x, T), T built in -/
def tyName : D → String
  | .non => "NoneType"
  | .bl _ => "bool"
  | .int _ => "int"
  | .str _ => "str"
  | .tup _ => "tuple"
  | .lst _ => "list"
  | .frl _ => "list"
  | .exn .. => ""
def dIsi (T : String) : D → Sto → Option (D × Sto) := fun d S => match d with
  | .exn .. => none
  | _ => (kitB (tyName d) T).map fun k => (.bl k, S)
theorem ty_of {d : D} {v : V} {H : Hp} {φ : List Addr} {S : Sto} (rs : RepS c H φ S) (r : RepV c H φ d v) (n : ∀ a b e, d ≠ .exn a b e) : TyX c.K H v (.type (tyName d)) := by
  cases d with
  | non => unfold RepV at r; subst r; exact .base .non
  | bl k => unfold RepV at r; subst r; exact .base (.bl k)
  | int i => unfold RepV at r; subst r; exact .base (.int i)
  | str z => unfold RepV at r; subst r; exact .base (.str z)
  | tup xs =>
    unfold RepV at r
    obtain ⟨q, us, rfl, h1, h2⟩ := r
    rcases h1 with (h1 | ⟨o, h1⟩) | ⟨o, its, n, h1, h3, _⟩
    · exact .base (.tup h1)
    · exact .fTuple h1
    · exact .kTuple h1 h3
  | lst l =>
    unfold RepV at r
    obtain ⟨q, rfl, h1⟩ := r
    obtain ⟨vs, h2⟩ := rs.isl (List.mem_of_getElem? h1)
    exact .base (.lst h2)
  | frl xs =>
    unfold RepV at r
    obtain ⟨q, us, rfl, h1, h2⟩ := r
    rcases h1 with ⟨o, h1⟩ | ⟨o, its, n, h1, h3, _⟩
    · exact .base (.frz h1)
    · exact .kList h1 h3
  | exn a b e => exact absurd rfl (n a b e)
theorem me_isi {T : String} {y : Str} {py : Pos} (h : ME X c W a ea) (hm : X.mg "isinstance" = none) (hm2 : X.mg y = none) (hv2 : bootBuiltins y = some (.type T) := by decide +kernel) (hg : Gl X "isinstance" := by rfl) (hg2 : Gl X y := by rfl) (hn2 : y ≠ "__name__" := by decide) (hd2 : (y == ("__debug__" : Str)) = false := by decide)
    (he1 : starEach [a, .Name y py] X.env = (false, eval a X.env) :: starEach [.Name y py] X.env := by rfl) (he2 : starEach [.Name y py] X.env = (false, eval (.Name y py) X.env) :: starEach [] X.env := by rfl) (hpl : (backTo pos (starEach [.Name y py] X.env)).any (·.1) = false := by rfl) :
    ME X c W (.Call (.Name "isinstance" p) [a, .Name y py] [] pos) (eU (dIsi T) ea) := fun s => by
  refine PE.imp (pe_callB call_isi hg hm (by decide +kernel) (pa_cons (h s) (pa_cons (pe_bltn (v := .ty T) hg2 hm2 hv2 rfl hn2 hd2) pa_nil he2) he1) (by decide) (by decide) he1 hpl) fun σ H Q ⟨φ, ρ, S, re, rs, o⟩ => ?_
  refine ⟨φ, ρ, S, re, rs, Out.bind o fun x S1 φ1 H1 v e1 s1 r1 o1 => ?_⟩
  replace o1 := OutO.of o1
  have key : ∀ k, kitB (tyName x) T = some k → (∀ a b e, x ≠ .exn a b e) → OutO c H1 φ1 (RepV c) (some (D.bl k, S1)) Q → rIsi X.K [v, .ty T] H1 Q := fun k hk hn o1 =>
    ⟨v, .ty T, _, _, k, rfl, .ty T, by rw [← s.kk]; exact ty_of s1 r1 hn, kit_ty hk, o1 φ1 H1 _ (.refl _ _) s1 rep_bl⟩
  have go : ∀ (hn : ∀ a b e, x ≠ .exn a b e), OutO c H1 φ1 (RepV c) ((kitB (tyName x) T).map fun k => (D.bl k, S1)) Q → rIsi X.K [v, .ty T] H1 Q := fun hn o1 => by
    cases hq : kitB (tyName x) T with
    | none => rw [hq] at o1; exact o1.elim
    | some k =>
      rw [hq] at o1
      exact key k hq hn o1
  cases x <;> first
    | exact go (fun _ _ _ q => by cases q) o1
    | exact o1.elim
/-! methods of lists -/
def eMt (g : Nat → List D → Sto → Option (D × Sto)) (eo : Ev) (ra : EvA) : Ev := fun ρ S => (eo ρ S).bind fun d S1 => match d with
  | .lst l => (ra ρ S1).bind fun ds S2 => lift (g l ds S2)
  | _ => .stuck
def eMt0 (g : Nat → List D → Sto → Option (D × Sto)) (eo : Ev) : Ev := fun ρ S => (eo ρ S).bind fun d S1 => match d with
  | .lst l => lift (g l [] S1)
  | _ => .stuck
def MtD (X : Cx) (c : Cz) (id : String) (g : Nat → List D → Sto → Option (D × Sto)) : Prop :=
  c.K = X.K → MtR X id fun v vs H Q => ∃ φ S l ds, RepS c H φ S ∧ RepV c H φ (.lst l) v ∧ RepL c H φ ds vs ∧ OutO c H φ (RepV c) (g l ds S) Q
theorem MtR.imp {id : String} {r r' : V → List V → Hp → VK → Prop} (h : MtR X id r) (k : ∀ v x H Q, r' v x H Q → r v x H Q) : MtR X id r' := fun pins s σ H x xs v us Q I rx rv q => h pins s σ H x xs v us Q I rx rv (k _ _ _ _ q)
theorem me_bm {name : Str} {id : String} {g : Nat → List D → Sto → Option (D × Sto)} {o : Expr} {eo : Ev} {apos : Pos} (slot : Slot "list" name id) (hty : typeOf (.builtin id) = pure (.type "method_descriptor")) (hm : MtD X c id g)
    (ho : ME X c W o eo) (ha : MA X c W (a :: es) ra) (hbase : attributeBase o name X.env (eval o X.env) = eval o X.env := by rfl)
    (hfew : ((backTo pos (starEach (a :: es) X.env)).all (fun x => !x.1) && (backToKw pos (keywordEach [] X.env)).all (fun x => x.1.isSome)
      && decide ((a :: es).length + ([] : List Keyword).length + (if ([] : List Keyword).isEmpty then 0 else 1) < 30)) = true := by rfl)
    (hline : (apos.endLine == pos.line) = true := by rfl) (hs : starEach (a :: es) X.env = (false, eval a X.env) :: starEach es X.env := by rfl) (hpl : (backTo pos (starEach es X.env)).any (·.1) = false := by rfl) :
    ME X c W (.Call (.Attribute o name apos) (a :: es) [] pos) (eMt g eo ra) := fun s => by
  refine PE.imp (pe_bm PySem.F.plainAttrs_list slot hty (hm s.kk) (ho s) (ha s) hbase hfew hline hs hpl) fun σ H Q ⟨φ, ρ, S, re, rs, o⟩ => ?_
  refine ⟨φ, ρ, S, re, rs, Out.bind o fun d S1 φ1 H1 v e1 s1 r1 o1 => ?_⟩
  cases d <;> first
    | exact False.elim o1
    | skip
  rename_i l
  refine ⟨?_, φ1, ρ, S1, re.ext rs e1, s1, Out.bind o1 fun ds S2 φ2 H2 vs e2 s2 r2 o2 => ⟨φ2, S2, l, ds, s2, RepV.ext s1.ls e2 _ _ r1, r2, OutO.of o2⟩⟩
  unfold RepV at r1
  obtain ⟨q, rfl, h1⟩ := r1
  obtain ⟨vs, h2⟩ := s1.isl (List.mem_of_getElem? h1)
  exact .inl ⟨rfl, _, SqL.of h2⟩
theorem me_bm0 {name : Str} {id : String} {g : Nat → List D → Sto → Option (D × Sto)} {o : Expr} {eo : Ev} {apos : Pos} (slot : Slot "list" name id) (hty : typeOf (.builtin id) = pure (.type "method_descriptor")) (hm : MtD X c id g)
    (ho : ME X c W o eo) (hbase : attributeBase o name X.env (eval o X.env) = eval o X.env := by rfl) (hline : (apos.endLine == pos.line) = true := by rfl) :
    ME X c W (.Call (.Attribute o name apos) [] [] pos) (eMt0 g eo) := fun s => by
  refine PE.imp (pe_bm0 PySem.F.plainAttrs_list slot hty (hm s.kk) (ho s) hbase hline) fun σ H Q ⟨φ, ρ, S, re, rs, o⟩ => ?_
  refine ⟨φ, ρ, S, re, rs, Out.bind o fun d S1 φ1 H1 v e1 s1 r1 o1 => ?_⟩
  cases d <;> first
    | exact False.elim o1
    | skip
  rename_i l
  refine ⟨?_, φ1, S1, l, [], s1, r1, .nil, OutO.of o1⟩
  unfold RepV at r1
  obtain ⟨q, rfl, h1⟩ := r1
  obtain ⟨vs, h2⟩ := s1.isl (List.mem_of_getElem? h1)
  exact .inl ⟨rfl, _, SqL.of h2⟩
theorem put_list {φ : List Addr} {H : Hp} {S : Sto} {Q : VK} {xs : List D} {vs : List V} {l : Nat} {q : Addr} {d : D} {v : V} (rs : RepS c H φ S) (hl : φ[l]? = some q) (r : RepL c H φ xs vs) (rv : RepV c H φ d v)
    (o : OutO c H φ (RepV c) (some (d, S.set l xs)) Q) : Q v (upd H q (.lst vs)) := by
  obtain ⟨s2, e2⟩ := rs.write hl r
  exact o φ _ v e2 s2 (RepV.ext rs.ls e2 _ _ rv)
def mAppend (l : Nat) (ds : List D) (S : Sto) : Option (D × Sto) := match ds with
  | [d] => (S[l]?).bind fun xs => if xs.length < most then some (.non, S.set l (xs ++ [d])) else none
  | _ => none
theorem md_append : MtD X c "list.append" mAppend := fun kk => by
  refine MtR.imp mt_append fun v vs H Q ⟨φ, S, l, ds, rs, r0, r, o⟩ => ?_
  unfold mAppend at o
  split at o
  · obtain ⟨w, rfl, rw⟩ := r.one
    cases q : S[l]? with
    | none => rw [q] at o; exact o.elim
    | some xs =>
      rw [q, Option.bind_some] at o
      by_cases hz : xs.length < most
      · rw [if_pos hz] at o
        obtain ⟨q', us, rfl, k0, k1, k2⟩ := lst_at rs r0 q
        exact ⟨q', us, w, rfl, rfl, k1, by rw [← k2.length]; exact most_lt hz, put_list rs k0 (k2.append (.cons rw .nil)) rep_non o⟩
      · rw [if_neg hz] at o
        exact o.elim
  · exact o.elim
def mPopAt (l : Nat) (ds : List D) (S : Sto) : Option (D × Sto) := match ds with
  | [.int i] => if i < 1000000 ∧ -1000000 < i then (S[l]?).bind fun xs => (ixN xs.length i).bind fun k => (xs[k]?).map fun d => (d, S.set l (xs.eraseIdx k)) else none
  | _ => none
theorem md_popAt : MtD X c "list.pop" mPopAt := fun kk => by
  refine MtR.imp mt_popAt fun v vs H Q ⟨φ, S, l, ds, rs, r0, r, o⟩ => ?_
  unfold mPopAt at o
  split at o
  · rename_i i
    obtain ⟨w, rfl, rw⟩ := r.one
    unfold RepV at rw
    subst rw
    by_cases hi : i < 1000000 ∧ -1000000 < i
    case neg => rw [if_neg hi] at o; exact o.elim
    rw [if_pos hi] at o
    cases q : S[l]? with
    | none => rw [q] at o; exact o.elim
    | some xs =>
      rw [q, Option.bind_some] at o
      cases qk : ixN xs.length i with
      | none => rw [qk] at o; exact o.elim
      | some k =>
        rw [qk, Option.bind_some] at o
        cases qd : xs[k]? with
        | none => rw [qd] at o; exact o.elim
        | some d =>
          rw [qd] at o
          obtain ⟨q', us, rfl, k0, k1, k2⟩ := lst_at rs r0 q
          obtain ⟨w, g1, g2⟩ := k2.get qd
          obtain ⟨e1, e2, e3, e4⟩ := ixN_seq qk
          have hl := k2.length
          exact ⟨q', us, i, k, w, rfl, rfl, k1, by omega, by omega, by rw [← hl]; exact e1, g1, put_list rs k0 (k2.eraseIdx k) g2 o⟩
  · exact o.elim
end
end MP
end
section
set_option Elab.async false
set_option linter.all false
set_option maxRecDepth 100000
set_option maxHeartbeats 400000
/-! MP7: stores into lists, in, += ; an error's fields; defs called where an error is handled. -/
namespace MP
open PySem PySem.Spec PyProof.Rows L2

section
variable {X : Cx} {c : Cz} {W : WX} {a b d : Expr} {ea eb ed : Ev} {pos : Pos} {es : List Expr} {ra : EvA} {x : Str} {p : Pos}
/-! o[i] = v -/
def gSet : D → D → D → Sto → Option Sto := fun o i v S => match o, i with
  | .lst l, .int k => (S[l]?).bind fun xs => (ixN xs.length k).map fun j => S.set l (xs.set j v)
  | _, _ => none
theorem sd_list : SetD X c gSet := fun kk => by
  intro pins s σ H o i v ov iv u Q I ro ri rv ⟨φ, S, a, k, d, rs, r1, r2, r3, S', e, q⟩
  refine set_list pins s σ H o i v ov iv u Q I ro ri rv ?_
  cases a <;> first
    | (cases e; done)
    | skip
  rename_i l
  cases k <;> first
    | (cases e; done)
    | skip
  rename_i k
  have e : (S[l]?).bind (fun xs => (ixN xs.length k).map fun j => S.set l (xs.set j d)) = some S' := e
  cases q0 : S[l]? with
  | none => rw [q0] at e; cases e
  | some xs =>
    rw [q0, Option.bind_some] at e
    cases qj : ixN xs.length k with
    | none => rw [qj] at e; cases e
    | some j =>
      rw [qj] at e
      cases e
      obtain ⟨a, us, rfl, k0, k1, k2⟩ := lst_at rs r1 q0
      unfold RepV at r2
      subst r2
      obtain ⟨s2, e2⟩ := rs.write k0 (k2.set j r3)
      exact ⟨a, us, k, j, rfl, rfl, k1, by rw [← k2.length]; exact qj, q _ e2 s2⟩
/-! x += y -/
theorem id_add : IpD X c .Add (dI0 fun i j => .int (i + j)) := fun kk => by
  intro pins s σ H x y v u Q I rx ry ⟨φ, S, d, e, rs, r1, r2, o⟩
  refine ip_add pins s σ H x y v u Q I rx ry ?_
  cases d <;> cases e <;> first
    | exact False.elim o
    | skip
  rename_i i j
  unfold RepV at r1 r2
  exact ⟨i, j, r1, r2, o φ H _ (.refl _ _) rs rep_int⟩
/-! in, not in, index, among flat things -/
def flatD : D → Option V
  | .non => some .non
  | .bl k => some (.bl k)
  | .int i => some (.int i)
  | .str z => some (.str z)
  | _ => none
def flatL : List D → Option (List V)
  | [] => some []
  | d :: ds => (flatD d).bind fun v => (flatL ds).map fun vs => v :: vs
theorem flatD_rep {d : D} {v w : V} {H : Hp} {φ : List Addr} (r : RepV c H φ d v) (e : flatD d = some w) : v = w ∧ flatV w = true := by
  cases d <;> first
    | (cases e; done)
    | (cases e
       unfold RepV at r
       exact ⟨r, rfl⟩)
theorem flatL_rep {H : Hp} {φ : List Addr} : ∀ {ds : List D} {vs ws : List V}, RepL c H φ ds vs → flatL ds = some ws → vs = ws ∧ ws.all flatV = true
  | [], vs, ws, r, e => by
    unfold RepL at r
    cases e
    exact ⟨r, rfl⟩
  | d :: ds, vs, ws, r, e => by
    unfold RepL at r
    obtain ⟨v, vr, rfl, r1, r2⟩ := r
    unfold flatL at e
    cases q1 : flatD d with
    | none => rw [q1] at e; cases e
    | some w =>
      cases q2 : flatL ds with
      | none => rw [q1, q2] at e; cases e
      | some wr =>
        rw [q1, q2] at e
        cases e
        obtain ⟨h1, h2⟩ := flatD_rep r1 q1
        obtain ⟨h3, h4⟩ := flatL_rep r2 q2
        exact ⟨by rw [h1, h3], by simp [h2, h4]⟩
def dIn : Op2 := fun d e S => (itemsOf e S).bind fun xs => (flatD d).bind fun v => (flatL xs).map fun vs => (.bl (inV v vs), S)
def dNotIn : Op2 := fun d e S => (itemsOf e S).bind fun xs => (flatD d).bind fun v => (flatL xs).map fun vs => (.bl (!inV v vs), S)
theorem in_read {neg : Bool} {K : PySem.W.Frag} {d e : D} {x y : V} {H : Hp} {φ : List Addr} {S : Sto} {Q : VK} (kk : c.K = K) (rs : RepS c H φ S) (r1 : RepV c H φ d x) (r2 : RepV c H φ e y)
    (o : OutO c H φ (RepV c) ((itemsOf e S).bind fun xs => (flatD d).bind fun v => (flatL xs).map fun vs => (D.bl (if neg = true then !inV v vs else inV v vs), S)) Q) : rIn K neg x y H Q := by
  cases q0 : itemsOf e S with
  | none => rw [q0] at o; exact o.elim
  | some xs =>
    rw [q0, Option.bind_some] at o
    cases q1 : flatD d with
    | none => rw [q1] at o; exact o.elim
    | some v =>
      rw [q1, Option.bind_some] at o
      cases q2 : flatL xs with
      | none => rw [q2] at o; exact o.elim
      | some vs =>
        rw [q2] at o
        obtain ⟨q, us, rfl, k1, k2⟩ := items_at rs r2 q0
        obtain ⟨h1, h2⟩ := flatD_rep r1 q1
        obtain ⟨h3, h4⟩ := flatL_rep k1 q2
        subst h1 h3
        refine ⟨q, us, rfl, ?_, h2, h4, o φ H _ (.refl _ _) rs rep_bl⟩
        rw [← kk]
        rcases k2 with ⟨_, k2⟩ | ⟨_, k2⟩
        · exact .inl k2
        · exact .inr k2
theorem od_in : OpD X c (compareOp .In) dIn := fun kk => OpR.imp op_in_seq fun x y H Q ⟨φ, S, d, e, rs, r1, r2, o⟩ => in_read (neg := false) kk rs r1 r2 o
theorem od_notIn : OpD X c (compareOp .NotIn) dNotIn := fun kk => OpR.imp op_notIn_seq fun x y H Q ⟨φ, S, d, e, rs, r1, r2, o⟩ => in_read (neg := true) kk rs r1 r2 o
/-- the first place of a flat thing -/
def ixOf (v : V) : List V → Option Nat
  | [] => none
  | w :: ws => if eqV w v = true then some 0 else (ixOf v ws).map (· + 1)
theorem ixOf_some {v : V} : ∀ {ws : List V} {j : Nat}, ixOf v ws = some j → ∃ z, ws[j]? = some z ∧ eqV z v = true ∧ ∀ (m : Nat) (z' : V), m < j → ws[m]? = some z' → eqV z' v = false
  | [], j, h => by cases h
  | w :: ws, j, h => by
    unfold ixOf at h
    by_cases hw : eqV w v = true
    · rw [if_pos hw] at h
      cases h
      exact ⟨w, rfl, hw, fun m z' hm => by omega⟩
    · rw [if_neg hw] at h
      cases q : ixOf v ws with
      | none => rw [q] at h; cases h
      | some k =>
        rw [q] at h
        cases h
        obtain ⟨z, h1, h2, h3⟩ := ixOf_some q
        refine ⟨z, by simpa using h1, h2, fun m z' hm hz => ?_⟩
        cases m with
        | zero =>
          simp at hz
          subst hz
          exact Bool.eq_false_iff.mpr hw
        | succ m =>
          have hm : m + 1 < k + 1 := hm
          exact h3 m z' (by omega) (by simpa using hz)
def mIndex (l : Nat) (ds : List D) (S : Sto) : Option (D × Sto) := match ds with
  | [d] => (S[l]?).bind fun xs => (flatD d).bind fun v => (flatL xs).bind fun vs => (ixOf v vs).map fun j => (.int (j : Nat), S)
  | _ => none
theorem md_index : MtD X c "list.index" mIndex := fun kk => by
  refine MtR.imp mt_index fun v vs H Q ⟨φ, S, l, ds, rs, r0, r, o⟩ => ?_
  unfold mIndex at o
  split at o
  · rename_i d
    obtain ⟨w, rfl, rw'⟩ := r.one
    cases q : S[l]? with
    | none => rw [q] at o; exact o.elim
    | some xs =>
      rw [q, Option.bind_some] at o
      cases q1 : flatD d with
      | none => rw [q1] at o; exact o.elim
      | some v =>
        rw [q1, Option.bind_some] at o
        cases q2 : flatL xs with
        | none => rw [q2] at o; exact o.elim
        | some vs =>
          rw [q2, Option.bind_some] at o
          cases q3 : ixOf v vs with
          | none => rw [q3] at o; exact o.elim
          | some j =>
            rw [q3] at o
            obtain ⟨q', us, rfl, k0, k1, k2⟩ := lst_at rs r0 q
            obtain ⟨h1, h2⟩ := flatD_rep rw' q1
            obtain ⟨h3, h4⟩ := flatL_rep k2 q2
            subst h1 h3
            obtain ⟨z, g1, g2, g3⟩ := ixOf_some q3
            exact ⟨q', us, w, j, z, rfl, rfl, SqL.of k1, h2, h4, g1, g2, g3, o φ H _ (.refl _ _) rs rep_int⟩
  · exact o.elim
def mInsert (l : Nat) (ds : List D) (S : Sto) : Option (D × Sto) := match ds with
  | [.int i, d] => (S[l]?).bind fun xs => if xs.length < most ∧ 0 ≤ i ∧ i < 1000000 then some (.non, S.set l (xs.take i.toNat ++ [d] ++ xs.drop i.toNat)) else none
  | _ => none
theorem md_insert : MtD X c "list.insert" mInsert := fun kk => by
  refine MtR.imp mt_insert fun v vs H Q ⟨φ, S, l, ds, rs, r0, r, o⟩ => ?_
  unfold mInsert at o
  split at o
  · rename_i i d
    obtain ⟨w1, w2, rfl, r1, r2⟩ := r.two
    unfold RepV at r1
    subst r1
    cases q : S[l]? with
    | none => rw [q] at o; exact o.elim
    | some xs =>
      rw [q, Option.bind_some] at o
      by_cases hz : xs.length < most ∧ 0 ≤ i ∧ i < 1000000
      · rw [if_pos hz] at o
        obtain ⟨q', us, rfl, k0, k1, k2⟩ := lst_at rs r0 q
        exact ⟨q', us, i, w2, rfl, rfl, k1, by rw [← k2.length]; exact most_lt hz.1, hz.2.1, by omega, put_list rs k0 (((k2.take _).append (.cons r2 .nil)).append (k2.drop _)) rep_non o⟩
      · rw [if_neg hz] at o
        exact o.elim
  · exact o.elim
def mExtend (l : Nat) (ds : List D) (S : Sto) : Option (D × Sto) := match ds with
  | [.lst m] => (S[l]?).bind fun xs => (S[m]?).bind fun ys => if xs.length + ys.length ≤ most then some (.non, S.set l (xs ++ ys)) else none
  | _ => none
theorem md_extend : MtD X c "list.extend" mExtend := fun kk => by
  refine MtR.imp mt_extend fun v vs H Q ⟨φ, S, l, ds, rs, r0, r, o⟩ => ?_
  unfold mExtend at o
  split at o
  · rename_i m
    obtain ⟨w, rfl, rw'⟩ := r.one
    cases q : S[l]? with
    | none => rw [q] at o; exact o.elim
    | some xs =>
      rw [q, Option.bind_some] at o
      cases q2 : S[m]? with
      | none => rw [q2] at o; exact o.elim
      | some ys =>
        rw [q2, Option.bind_some] at o
        by_cases hz : xs.length + ys.length ≤ most
        · rw [if_pos hz] at o
          obtain ⟨q', us, rfl, k0, k1, k2⟩ := lst_at rs r0 q
          obtain ⟨q'', ws, rfl, k3, k4, k5⟩ := lst_at rs rw' q2
          exact ⟨q', q'', us, ws, rfl, rfl, k1, k4, by rw [← k2.length, ← k5.length]; exact most_le hz, put_list rs k0 (k2.append k5) rep_non o⟩
        · rw [if_neg hz] at o
          exact o.elim
  · exact o.elim

/-! ### an error's field, in the suite -/
def fieldOf (f : Str) : List Str → List D → Option D
  | n :: ns, d :: ds => if f == n then some d else fieldOf f ns ds
  | _, _ => none
def eXf (n f : Str) (e : Ev) : Ev := fun ρ S => (e ρ S).bind fun d S1 => match d with
  | .exn m ns ds => if m = n then (match fieldOf f ns ds with
    | some d => .ok d S1
    | none => .stuck) else .stuck
  | _ => .stuck
theorem fieldOf_at {f : Str} {H : Hp} {φ : List Addr} : ∀ {ns : List Str} {ds : List D} {vs : List V} {d : D}, ns.length = vs.length → RepL c H φ ds vs → fieldOf f ns ds = some d → ∃ v, (ns.zip vs).lookup f = some v ∧ RepV c H φ d v
  | [], ds, vs, d, hl, r, e => by unfold fieldOf at e; cases e
  | n :: ns, [], vs, d, hl, r, e => by unfold fieldOf at e; cases e
  | n :: ns, d0 :: ds, vs, d, hl, r, e => by
    unfold RepL at r
    obtain ⟨v, vr, rfl, r1, r2⟩ := r
    unfold fieldOf at e
    show ∃ w, List.lookup f ((n, v) :: ns.zip vr) = some w ∧ _
    by_cases hf : (f == n) = true
    · rw [if_pos hf] at e
      cases e
      exact ⟨v, by simp [List.lookup, hf], r1⟩
    · rw [if_neg hf] at e
      obtain ⟨w, h1, h2⟩ := fieldOf_at (by simpa using hl) r2 e
      refine ⟨w, ?_, h2⟩
      have hf' : (f == n) = false := by simpa using hf
      simp only [List.lookup, hf', h1]
theorem me_xf {Y : Cx} {ad C dx : Addr} {oe : Obj} {cls : Value} {pn : List (Addr × Obj)} {n f : Str} {e : Expr} {ee : Ev} (T : XfC Y.K C) (hm : Y.mg n = some (.ref C)) (hno : PySem.W.findIn Y.K (.ref C) f = some none)
    (hz : Zc cls (some dx) oe) (hf : ∃ vs, oe.data = .fields vs) (he : ME (Y.suite ad ((ad, oe) :: pn)) (c.hot ad cls dx) W e ee) (hb : attributeBase e f Y.env (eval e Y.env) = eval e Y.env := by rfl) :
    ME (Y.suite ad ((ad, oe) :: pn)) (c.hot ad cls dx) W (.Attribute e f pos) (eXf n f ee) := fun s => by
  refine PE.imp (pe_xf T hno hz hf (he s) hb) fun σ H Q ⟨φ, ρ, S, re, rs, o⟩ => ?_
  refine ⟨φ, ρ, S, re, rs, Out.bind o fun x S1 φ1 H1 v e1 s1 r1 o1 => ?_⟩
  cases x <;> first
    | exact False.elim o1
    | skip
  rename_i m ns ds
  unfold RepV at r1
  obtain ⟨a', cls', d', vs, rfl, hx, hmg, hd, hl, rl⟩ := r1
  cases hx
  by_cases hn : m = n
  · subst hn
    simp only [if_true] at o1
    have hcls : cls = .ref C := by
      have h2 : Y.mg m = some cls := by rw [← s.mm]; exact hmg
      rw [hm] at h2
      exact (Option.some.inj h2).symm
    cases q : fieldOf f ns ds with
    | none => simp only [q] at o1; exact o1.elim
    | some dd =>
      simp only [q] at o1
      obtain ⟨w, k1, k2⟩ := fieldOf_at hl rl q
      exact ⟨rfl, hcls, dx, _, w, rfl, hd, k1, o1 φ1 H1 _ (.refl _ _) s1 k2⟩
  · simp only [if_neg hn] at o1
    exact o1.elim

/-! ### a def that raises nothing, called where an error is handled -/
structure RoomC (k : Nat) (A : Around) : Prop where
  dp : A.depth + 3 * k + 5 < recursionLimit
  un : A.units + 16 * k + 200 < cLine
theorem RoomC.mono {j k : Nat} {A : Around} (r : RoomC k A) (h : j ≤ k) : RoomC j A := ⟨by have := r.dp; omega, by have := r.un; omega⟩
theorem RoomC.into {k : Nat} {A : Around} (r : RoomC (k + 1) A) (env : PySem.Env) : RoomC k (A.deeper env) := by
  have d := r.dp
  have u := r.un
  constructor
  · show A.depth + 1 + 3 * k + 5 < recursionLimit
    omega
  · show A.units + 3 + 16 * k + 200 < cLine
    omega
theorem Room.hot {k : Nat} {A : Around} (r : Room k A) (v : Option Value) : RoomC k (A.mark v) := ⟨r.dp, r.un⟩
theorem RoomC.u64 {k : Nat} {A : Around} (r : RoomC k A) : A.units + 64 < cLine := by have := r.un; omega
theorem Room.u64 {k : Nat} {A : Around} (r : Room k A) : A.units + 64 < cLine := by have := r.un; omega
/-- as FnOk, whatever is handled; no error leaves -/
structure FnC (P : Program) (w : World) (K : PySem.W.Frag) (mg : Str → Option Value) (base : Heap) (k : Nat) (f : Addr) (fd : FuncData) (ps : List Str) (sp : Sp) : Prop where
  len : ∀ vs H Q E, sp vs H Q E → vs.length = ps.length
  run : ∀ (A : Around) (outer : List PySem.Env) (s : Shared) (H : Hp) (args : Args) (us : List Value) (vs : List V) (Q : VK), RoomC k A → Env0 P w K mg base A outer s H → BindsTo s fd args (ps.zip us) → Vals vs us → sp vs H Q E0 →
    codeAny (model P w) A (.call (.ref f) args) (CR CX0 outer P w H s Q E0) s
def cxC (P : Program) (w : World) (K : PySem.W.Frag) (mg : Str → Option Value) (base : Heap) (N : List Str) (qual : Str) (scope : Scope) (f : Addr) (cd : Value) (A : Around) (outer : List PySem.Env) (s : Shared) (H : Hp) : Cx :=
  { cxOf CX0 P w K mg base N qual scope f cd A outer s H E0 with calm := false, xe := fun _ _ => False }
/-- A without what is handled -/
def cool (A : Around) : Around := { A with handled := none }
theorem inv_startC {P : Program} {w : World} {K : PySem.W.Frag} {mg : Str → Option Value} {base : Heap} {N ps : List Str} {qual : Str} {scope : Scope} {f : Addr} {cd : Value} {A : Around} {outer : List PySem.Env} {s s1 : Shared} {H : Hp} {us : List Value} {vs : List V}
    (S : FnScope N ps scope) (e0 : Env0 P w K mg base A outer s H) (hl : vs.length = ps.length) (r : Vals vs us)
    (x : InCallC s s.heap.objs.size (bindL (envOfC qual scope s.heap.objs.size f cd).kindOf (ps.zip us) fun _ => none) (cellsFrom (s.heap.objs.size + 1) scope.names []) (bindC (envOfC qual scope s.heap.objs.size f cd).kindOf (ps.zip us) fun _ => none) s1) :
    Inv (cxC P w K mg base N qual scope f cd A outer s H) [] (L2.start N vs) H s1 := by
  have e1 : Env0 P w K mg base (cool A) outer s H := ⟨e0.frames, e0.mod, e0.bs, e0.bsz, e0.funs, e0.frf, e0.hok, e0.bare⟩
  have J : Inv (cxOf CX0 P w K mg base N qual scope f cd (cool A) outer s H E0) [] (L2.start N vs) H s1 := inv_start S rfl e1 hl r x
  have fr : (cxC P w K mg base N qual scope f cd A outer s H).A.frames = some (envOfC qual scope s.heap.objs.size f cd :: outer) := Around.frames_deeper e0.frames
  have ok := J.ok
  exact ⟨⟨ok.mod, ok.kind, ok.glob, ok.blt, ok.above, ok.inj, ok.has, ok.cab, (fun z => Bool.noConfusion (show false = true from z)), fr, ok.stk, ok.exf, ok.bs, ok.bsz, ok.noex, ok.exfs, ok.funs, ok.frf⟩, J.os, J.bare, J.base, J.loc, J.cell, J.free, J.freeC, J.pin, J.hok, J.len⟩
theorem fn_ofC {P : Program} {w : World} {K : PySem.W.Frag} {mg : Str → Option Value} {base : Heap} {k : Nat} {f : Addr} {name qual : Str} {params : Arguments} {body : List Stmt} {scope : Scope} {dV kV doc pm cdv ct oc : Value} {an od : Option Addr}
    {osl : Array (Option Value)} {N ps : List Str} {sp : Sp} (lk : K.lookup f = some ⟨oc, od, .func (PySem.W.fnOf name qual params body scope dV kV doc pm an cdv ct), osl⟩) (hcd : PySem.W.codeIn K cdv qual = true) (S : FnScope N ps scope)
    (len : ∀ vs H Q E, sp vs H Q E → vs.length = ps.length)
    (hbody : ∀ (A : Around) (outer : List PySem.Env) (s : Shared) (H : Hp) (vs : List V) (Q : VK), RoomC k (A.deeper (envOfC qual scope s.heap.objs.size f cdv)) → sp vs H Q E0 →
      ∃ t, PSs (cxC P w K mg base N qual scope f cdv A outer s H) body t ∧ t { nx := fun _ H' => Q .non H', rt := Q } (L2.start N vs) H) :
    FnC P w K mg base (k + 1) f (PySem.W.fnOf name qual params body scope dV kV doc pm an cdv ct) ps sp := by
  constructor
  · exact len
  intro A outer s H args us vs Q hr e0 hb r hsp
  have hl := len _ _ _ _ hsp
  have stays : ∀ b o, base.get? b = some o → s.heap.get? b = some o := fun b o e => (e0.bs b o e).1
  have KX : K.In s.heap := e0.mod.kin.keeps stays
  have kinds : ∀ y ∈ ps.zip us, scope.names.lookup y.1 = some .local ∨ (scope.names.lookup y.1 = some .cell ∧ ((cellsFrom (s.heap.objs.size + 1) scope.names []).lookup y.1).isSome = true) := by
    rintro ⟨n, v⟩ hy
    exact (S.par n (List.of_mem_zip hy).1).imp id fun q => ⟨q, PySem.W.cellsFrom_some _ _ _ (.inl q)⟩
  have dpt : A.depth < recursionLimit := by have := hr.dp; omega
  refine codeAny_call_function dpt (KX _ _ lk) rfl S.co S.gen rfl (PySem.W.codeRec_of KX hcd) (hb _ _ _ _ (wpAny_newFunctionEnv_cells S.kind kinds fun env he s1 x => ?_))
  subst he
  refine ⟨(e0.mod.nolimit.keeps stays).keeps x.toInCall.keep, codeAny_func ?_⟩
  obtain ⟨t, ht, hq⟩ := hbody A outer s H vs Q (hr.into _) hsp
  have I := inv_startC (P := P) (w := w) (K := K) (mg := mg) (base := base) (A := A) (H := H) S e0 hl r x
  refine wpAny_mono (ht.run [] s1 (L2.start N vs) H _ I hq) (fun fl s' hs => ?_) fun e s' hs => False.elim hs
  cases fl with
  | ret u =>
    obtain ⟨v, σ', H', J, rv, q⟩ := hs
    exact ⟨v, H', J.os, J.bare, J.base, J.hok, rv, q⟩
  | next =>
    obtain ⟨σ', H', J, q⟩ := hs
    exact ⟨V.non, H', J.os, J.bare, J.base, J.hok, rfl, q⟩
  | brk =>
    obtain ⟨_, _, _, q⟩ := hs
    exact q.elim
  | cont =>
    obtain ⟨_, _, _, q⟩ := hs
    exact q.elim
theorem def_okC {P : Program} {w : World} {K : PySem.W.Frag} {mg : Str → Option Value} {base : Heap} {x qual : Str} {st : Stmt} {f : Addr} {fd : FuncData} {N ps : List Str} {k : Nat} {ev : Es} (c : Cz) (hcK : c.K = K) (hcm : c.mg = mg) (F : Fun K x qual st f fd) (S : FnScope N ps (defScope st))
    (hb : ∀ (cdv : Value) (A : Around) (outer : List PySem.Env) (s : Shared) (H : Hp), RoomC k (A.deeper (envOfC qual (defScope st) s.heap.objs.size f cdv)) → MSs (cxC P w K mg base N qual (defScope st) f cdv A outer s H) c W0 (defBody st) ev) :
    FnC P w K mg base (k + 1) f fd ps (spEv c ps.length (runDef N.length ev)) := by
  obtain ⟨oc, od, kV, doc, pm, an, cdv, ct, osl, rfl, lk, hcd⟩ := F.ex
  refine fn_ofC lk hcd S (fun vs H Q E h => h.1) fun A outer s H vs Q hr h => ?_
  refine ⟨_, hb cdv A outer s H hr ⟨hcK, hcm, takes0, PassesOwn.never, S.nd⟩, ?_⟩
  obtain ⟨_, φ, ds, S0, r, rs, o⟩ := h
  refine ⟨φ, begins N.length ds, S0, begins_rep r, rs, ?_⟩
  have o : Out c H φ (RepV c) (flowRes (ev (begins N.length ds) S0)) Q E0 := o
  revert o
  cases ev (begins N.length ds) S0 with
  | next ρ S => intro o φ' H' σ' e s r; exact o φ' H' .non e s rep_non
  | brk ρ S => intro o; exact o.elim
  | cont ρ S => intro o; exact o.elim
  | ret d S => intro o φ' H' v e s r; exact o φ' H' v e s r
  | exc n ns ds ρ S => intro o φ' H' σ' cls dx vs e s r m1 m2 m3 m4; exact o φ' H' cls dx vs e s m1 m2 m3 m4
  | stuck => intro o; exact o.elim
theorem me_callC {k : Nat} {f : Addr} {fd : FuncData} {ps : List Str} {rf : List D → Sto → Res D} (F : FnC X.prog X.w X.K X.mg X.base k f fd ps (spEv c ps.length rf)) (hr : RoomC k X.A) (hm : X.mg x = some (.ref f)) (hk : PySem.W.keepIn X.K (.ref f) = true) (hb : Binds X.K fd ps []) (ha : MA X c W0 (a :: es) ra) (hg : Gl X x := by rfl)
    (hdb : (x == ("__debug__" : Str)) = false := by decide) (he : starEach (a :: es) X.env = (false, eval a X.env) :: starEach es X.env := by rfl) (hpl : (backTo pos (starEach es X.env)).any (·.1) = false := by rfl) :
    ME X c W0 (.Call (.Name x p) (a :: es) [] pos) (eCall ps.length rf ra) := fun s => by
  constructor
  intro pins s0 σ H Q I ⟨φ, ρ, S, re, rs, o⟩
  apply wpAny_Call_Name_kw (ld_glob I hg hm ?_ hdb)
  apply PySem.W.callWith_K (h₀ := X.base) I.ok.mod.kin hk (thn ((ha s).run pos pins s0 σ H (fun vs H1 => spEv c ps.length rf vs H1 Q E0) I ?_) ?_) he hpl
  · refine ⟨φ, ρ, S, re, rs, Out.bind o fun xs S1 φ1 H1 vs e1 s1 r1 o1 => ?_⟩
    split at o1
    · rename_i hl
      exact ⟨by rw [← r1.length]; exact hl, φ1, xs, S1, r1, s1, o1⟩
    · exact o1.elim
  · rintro us s1 ⟨vs, H1, I1, r, q⟩
    refine ⟨I1.kIn, ?_⟩
    have hl : us.length = ps.length := by rw [← r.length]; exact F.len _ _ _ _ q
    have bnd := hb s1 us I1.kIn (by rw [List.append_nil]; exact hl)
    rw [List.append_nil] at bnd
    apply wpAny_call
    apply codeAny_mono (F.run X.A X.stack s1 H1 ⟨us, []⟩ us vs Q hr I1.env0 bnd r q)
    intro res s' hq
    match res, hq with
    | .ok (.ret _), hq => exact I1.after hq
    | .error e, hq => exact hq.elim
end
end MP
end
section
set_option Elab.async false
set_option linter.all false
set_option maxRecDepth 100000
set_option maxHeartbeats 400000
/-! MP8: defs by their names; the errors' classes; the law's end. -/
namespace MP
open PySem PySem.Spec PyProof.Rows L2

/-- a def of the text at its name -/
structure OkD (P : Program) (w : World) (K : PySem.W.Frag) (mg : Str → Option Value) (base : Heap) (k : Nat) (x : Str) (st : Stmt) (ps : List Str) (rf : List D → Sto → Res D) : Prop where
  gm : mg x = some (.ref (He.ga K x))
  ex : ∃ fd, Fun K x x st (He.ga K x) fd ∧ FnOk P w K mg base (L2.CX P w) k (He.ga K x) fd ps (spEv ⟨K, mg, none⟩ ps.length rf) ∧ Binds K fd ps []
/-- .. called where an error is handled -/
structure OkC (P : Program) (w : World) (K : PySem.W.Frag) (mg : Str → Option Value) (base : Heap) (k : Nat) (x : Str) (st : Stmt) (ps : List Str) (rf : List D → Sto → Res D) : Prop where
  gm : mg x = some (.ref (He.ga K x))
  ex : ∃ fd, Fun K x x st (He.ga K x) fd ∧ (∀ xc, FnC P w K mg base k (He.ga K x) fd ps (spEv ⟨K, mg, xc⟩ ps.length rf)) ∧ Binds K fd ps []
section
variable {P : Program} {w : World} {K : PySem.W.Frag} {mg : Str → Option Value} {base : Heap} {k : Nat} {x : Str} {st : Stmt} {N ps : List Str} {ev : Es} {rf : List D → Sto → Res D}
abbrev BindOk (x : Str) (st : Stmt) (ps : List Str) : Prop :=
  ∀ (kV doc pm : Value) (an : Option Addr) (cdv ct : Value) (us : List Value), us.length = ps.length → bindArgs (PySem.W.fnOf x x (defArgs st) (defBody st) (defScope st) .none kV doc pm an cdv ct) ⟨us, []⟩ = pure (ps.zip us)
theorem okd (hg : mg x = some (.ref (He.ga K x))) (F : ∃ fd, Fun K x x st (He.ga K x) fd) (S : FnScope N ps (defScope st)) (hbind : BindOk x st ps)
    (hb : ∀ (cdv : Value) (A : Around) (outer : List PySem.Env) (s : Shared) (H : Hp) (E : XK), Room k (A.deeper (envOfC x (defScope st) s.heap.objs.size (He.ga K x) cdv)) →
      MSs (cxOf (L2.CX P w) P w K mg base N x (defScope st) (He.ga K x) cdv A outer s H E) ⟨K, mg, none⟩ (fun cls d _ H => E cls d H) (defBody st) ev) : OkD P w K mg base (k + 1) x st ps (runDef N.length ev) := by
  obtain ⟨fd, F⟩ := F
  exact ⟨hg, fd, F, def_ok ⟨K, mg, none⟩ rfl rfl F S hb, F.binds hbind⟩
theorem okc (hg : mg x = some (.ref (He.ga K x))) (F : ∃ fd, Fun K x x st (He.ga K x) fd) (S : FnScope N ps (defScope st)) (hbind : BindOk x st ps)
    (hb : ∀ (xc : Option (Addr × Value × Addr)) (cdv : Value) (A : Around) (outer : List PySem.Env) (s : Shared) (H : Hp), RoomC k (A.deeper (envOfC x (defScope st) s.heap.objs.size (He.ga K x) cdv)) →
      MSs (cxC P w K mg base N x (defScope st) (He.ga K x) cdv A outer s H) ⟨K, mg, xc⟩ W0 (defBody st) ev) : OkC P w K mg base (k + 1) x st ps (runDef N.length ev) := by
  obtain ⟨fd, F⟩ := F
  exact ⟨hg, fd, F, fun xc => def_okC ⟨K, mg, xc⟩ rfl rfl F S (hb xc), F.binds hbind⟩
/-- a def whose run is nowhere told -/
theorem okd_stuck (hg : mg x = some (.ref (He.ga K x))) (F : ∃ fd, Fun K x x st (He.ga K x) fd) (hbind : BindOk x st ps) : OkD P w K mg base k x st ps (fun _ _ => .stuck) := by
  obtain ⟨fd, F⟩ := F
  exact ⟨hg, fd, F, ⟨fun vs H Q E h => h.1, fun A outer s H args us vs Q E hr e0 hb r h => by
    obtain ⟨_, φ, ds, S, _, _, o⟩ := h
    exact o.elim⟩, F.binds hbind⟩
theorem OkD.up {j : Nat} (h : OkD P w K mg base j x st ps rf) (hjk : j ≤ k) : OkD P w K mg base k x st ps rf := by
  obtain ⟨hg, fd, F, ok, bd⟩ := h
  exact ⟨hg, fd, F, ok.mono hjk, bd⟩
end
section
variable {X : Cx} {W : WX} {a b d : Expr} {pos : Pos} {es : List Expr} {ra rk : EvA} {x : Str} {p : Pos} {st : Stmt} {ps : List Str} {rf : List D → Sto → Res D} {k : Nat} {K : PySem.W.Frag} {mg : Str → Option Value}
theorem me_fn (T : OkD X.prog X.w X.K X.mg X.base k x st ps rf) (hr : Room k X.A) (ha : MA X ⟨X.K, X.mg, none⟩ W (a :: es) ra) (hg : Gl X x := by rfl)
    (hdb : (x == ("__debug__" : Str)) = false := by decide) (he : starEach (a :: es) X.env = (false, eval a X.env) :: starEach es X.env := by rfl) (hpl : (backTo pos (starEach es X.env)).any (·.1) = false := by rfl) :
    ME X ⟨X.K, X.mg, none⟩ W (.Call (.Name x p) (a :: es) [] pos) (eCall ps.length rf ra) := by
  obtain ⟨gm, fd, F, ok, bd⟩ := T
  exact me_call ok hr gm F.kp bd ha hg hdb he hpl
theorem me_fnC {xc : Option (Addr × Value × Addr)} (T : OkC X.prog X.w X.K X.mg X.base k x st ps rf) (hr : RoomC k X.A) (ha : MA X ⟨X.K, X.mg, xc⟩ W0 (a :: es) ra) (hg : Gl X x := by rfl)
    (hdb : (x == ("__debug__" : Str)) = false := by decide) (he : starEach (a :: es) X.env = (false, eval a X.env) :: starEach es X.env := by rfl) (hpl : (backTo pos (starEach es X.env)).any (·.1) = false := by rfl) :
    ME X ⟨X.K, X.mg, xc⟩ W0 (.Call (.Name x p) (a :: es) [] pos) (eCall ps.length rf ra) := by
  obtain ⟨gm, fd, F, ok, bd⟩ := T
  exact me_callC (ok xc) hr gm F.kp bd ha hg hdb he hpl
/-- keywords: pm puts the positional values and the keywords' values in the parameters' order -/
structure Perm (n m : Nat) (pm : {α : Type} → List α → List α → List α) : Prop where
  vals : ∀ {vs zs : List V} {us ws : List Value}, vs.length = n → zs.length = m → Vals vs us → Vals zs ws → Vals (pm vs zs) (pm us ws)
  rep : ∀ {c : Cz} {H : Hp} {φ : List Addr} {ds es : List D} {vs zs : List V}, vs.length = n → zs.length = m → RepL c H φ ds vs → RepL c H φ es zs → RepL c H φ (pm ds es) (pm vs zs)
abbrev KwOk (x : Str) (st : Stmt) (ps ks : List Str) (n : Nat) (pm : {α : Type} → List α → List α → List α) : Prop :=
  ∀ (kV doc pm' : Value) (an : Option Addr) (cdv ct : Value) (us ws : List Value), us.length = n → ws.length = ks.length → bindArgs (PySem.W.fnOf x x (defArgs st) (defBody st) (defScope st) .none kV doc pm' an cdv ct) ⟨us, ks.zip ws⟩ = pure (ps.zip (pm us ws))
theorem kwB_of {fd : FuncData} {f : Addr} {ks : List Str} {n : Nat} {pm : {α : Type} → List α → List α → List α} (F : Fun K x x st f fd) (hp : Perm n ks.length pm) (hk : KwOk x st ps ks n pm) : KwB K fd ps ks n pm pm pm := by
  obtain ⟨oc, od, kV, doc, pm', an, cdv, ct, osl, rfl, lk, hcd⟩ := F.ex
  exact ⟨fun s us ws h1 h2 => .of_eq (hk kV doc pm' an cdv ct us ws h1 h2), fun h1 h2 => hp.vals h1 h2, fun h1 h2 => hp.rep h1 h2⟩
theorem me_fnK {kws : List Keyword} {ks : List Str} {n : Nat} {pm : {α : Type} → List α → List α → List α} (T : OkD X.prog X.w X.K X.mg X.base k x st ps rf) (hr : Room k X.A) (hp : Perm n ks.length pm) (hkw : KwOk x st ps ks n pm)
    (ha : MA X ⟨X.K, X.mg, none⟩ W (a :: es) ra) (hk : MK X ⟨X.K, X.mg, none⟩ W kws rk) (hg : Gl X x := by rfl) (hall : (backToKw pos (keywordEach kws X.env)).all (·.1.isSome) = true := by rfl) (hks : (backToKw pos (keywordEach kws X.env)).filterMap (·.1) = ks := by rfl)
    (hdb : (x == ("__debug__" : Str)) = false := by decide) (he : starEach (a :: es) X.env = (false, eval a X.env) :: starEach es X.env := by rfl)
    (hpl : ((backTo pos (starEach (a :: es) X.env)).any (·.1) || (backToKw pos (keywordEach kws X.env)).any (·.1.isNone)) = false := by rfl) :
    ME X ⟨X.K, X.mg, none⟩ W (.Call (.Name x p) (a :: es) kws pos) (eKw n ks.length ps.length pm rf ra rk) := by
  obtain ⟨gm, fd, F, ok, bd⟩ := T
  exact me_callK ok hr gm F.kp (kwB_of F hp hkw) ha hk hg hall hks hdb he hpl
theorem me_fnK0 {kws : List Keyword} {ks : List Str} {pm : {α : Type} → List α → List α → List α} (T : OkD X.prog X.w X.K X.mg X.base k x st ps rf) (hr : Room k X.A) (hp : Perm 0 ks.length pm) (hkw : KwOk x st ps ks 0 pm)
    (hk : MK X ⟨X.K, X.mg, none⟩ W kws rk) (hg : Gl X x := by rfl) (hall : (backToKw pos (keywordEach kws X.env)).all (·.1.isSome) = true := by rfl) (hks : (backToKw pos (keywordEach kws X.env)).filterMap (·.1) = ks := by rfl)
    (hdb : (x == ("__debug__" : Str)) = false := by decide)
    (hpl : ((backTo pos (starEach [] X.env)).any (·.1) || (backToKw pos (keywordEach kws X.env)).any (·.1.isNone)) = false := by rfl) :
    ME X ⟨X.K, X.mg, none⟩ W (.Call (.Name x p) [] kws pos) (eKw 0 ks.length ps.length pm rf aNil rk) := by
  obtain ⟨gm, fd, F, ok, bd⟩ := T
  exact me_callK0 ok hr gm F.kp (kwB_of F hp hkw) hk hg hall hks hdb hpl
end
/-! usual orders -/
def pm01 {α : Type} (_ ws : List α) : List α := ws
def pm10 {α : Type} (_ ws : List α) : List α := match ws with
  | [b, a] => [a, b]
  | _ => []
theorem perm_01 {m : Nat} : Perm 0 m pm01 := ⟨fun _ _ _ r => r, fun _ _ _ r => r⟩
theorem perm_10 : Perm 0 2 pm10 where
  vals := fun {vs zs us ws} _ h2 _ r => by
    match zs, h2, r with
    | [b, a], _, .cons r1 (.cons r2 .nil) => exact .cons r2 (.cons r1 .nil)
  rep := fun {c H φ ds es vs zs} _ h2 _ r => by
    match zs, h2 with
    | [b, a], _ =>
      have hl := r.length
      match es, hl with
      | [e1, e2], _ =>
        obtain ⟨v, w, e, r1, r2⟩ := r.two
        cases e
        exact .cons r2 (.cons r1 .nil)

end MP
end
section
set_option Elab.async false
set_option linter.all false
set_option maxRecDepth 100000
set_option maxHeartbeats 400000
/-! MP9: the errors' classes; what the head tells; the law's end. -/
namespace MP
open PySem PySem.Spec PyProof.Rows L2

/-! ### what the head tells of an error's class -/
def clsB (K : PySem.W.Frag) (C : Addr) : Bool := match K.lookup C with
  | some ⟨.type "type", _, .cls cd, sl⟩ => (match cd.mro, sl.toList with
    | .ref C' :: bm, [_, _, _, _, some (.builtin n), _] => decide (C' = C) && (decide (n = "ValueError.__new__") && (!cd.hasDel && (cd.hasDict && PySem.HandSPX.refsVE bm)))
    | _, _ => false)
  | _ => false
theorem clsB_ok {K : PySem.W.Frag} {C : Addr} (h : clsB K C = true) : ∃ nm q N bs bm sn sub ab col dd k0 k1 k2 k3 k5, K.lookup C = some (excClassObj nm q C N bs bm true sn sub ab col dd k0 k1 k2 k3 k5 "ValueError.__new__") ∧ PySem.HandSPX.refsVE bm = true := by
  unfold clsB at h
  split at h
  · rename_i dd cd sl ho
    split at h
    · rename_i C' bm k0 k1 k2 k3 n k5 hm hs
      simp only [Bool.and_eq_true, decide_eq_true_eq, Bool.not_eq_true'] at h
      obtain ⟨rfl, rfl, hdel, hdct, hv⟩ := h
      obtain ⟨nm, bs, mro, ns, qn, hd, sn, sub, ab, col, del⟩ := cd
      dsimp only at hm hdel hdct
      subst hm hdel hdct
      have hsl : sl = #[k0, k1, k2, k3, some (.builtin "ValueError.__new__"), k5] := Array.toList_inj.mp (by rw [hs])
      subst hsl
      exact ⟨nm, qn, ns, bs, bm, sn, sub, ab, col, dd, k0, k1, k2, k3, k5, ho, hv⟩
    · cases h
  · cases h
def eqOO (a b : Option (Option Value)) : Bool := decide (a = b)
def errB (x : Str) (fs : List Str) (K : PySem.W.Frag) : Bool :=
  clsB K (He.ga K x) && (decide (PySem.W.findIn K (.ref (He.ga K x)) "__setattr__" = some (some (.builtin "object.__setattr__"))) && (decide (PySem.W.subIn K (.ref (He.ga K x)) (.type "BaseException") = some true) &&
  (decide (PySem.W.typeIn K (.ref (He.ga K x)) = some (.type "type")) && (PySem.W.keepIn K (.ref (He.ga K x)) && (decide (PySem.W.findIn K (.ref (He.ga K x)) "__init__" = some (some (.ref (He.ma K (He.ga K x) "__init__")))) &&
  (decide (PySem.W.typeIn K (.ref (He.ma K (He.ga K x) "__init__")) = some (.type "function")) && (xfB K (He.ga K x) && (fs.all (fun f => decide (PySem.W.findIn K (.ref (He.ga K x)) f = some none)) && decide (PySem.W.nsIn K mainGlobals x = some (some (.ref (He.ga K x))))))))))))
structure ErrK (K : PySem.W.Frag) (x : Str) (fs : List Str) : Prop where
  ox : OexC K (He.ga K x)
  iC : PySem.W.findIn K (.ref (He.ga K x)) "__init__" = some (some (.ref (He.ma K (He.ga K x) "__init__")))
  tI : PySem.W.typeIn K (.ref (He.ma K (He.ga K x) "__init__")) = some (.type "function")
  xf : XfC K (He.ga K x)
  no : ∀ f ∈ fs, PySem.W.findIn K (.ref (He.ga K x)) f = some none
  ns : PySem.W.nsIn K mainGlobals x = some (some (.ref (He.ga K x)))
theorem errB_ok {x : Str} {fs : List Str} {K : PySem.W.Frag} (h : errB x fs K = true) : ErrK K x fs := by
  unfold errB at h
  simp only [Bool.and_eq_true, decide_eq_true_eq, List.all_eq_true] at h
  obtain ⟨h1, h2, h3, h4, h5, h6, h7, h8, h9, h10⟩ := h
  exact ⟨⟨clsB_ok h1, h2, h3, h4, h5⟩, h6, h7, xfB_ok h8, h9, h10⟩
/-- an error of the text at its name -/
structure OkE (P : Program) (w : World) (K : PySem.W.Frag) (mg : Str → Option Value) (base : Heap) (x : Str) (fs : List Str) : Prop where
  gm : mg x = some (.ref (He.ga K x))
  er : ErrK K x fs
  ex : ∃ fd, FnOk P w K mg base CX0 1 (He.ma K (He.ga K x) "__init__") fd ("self" :: fs) (spIni (He.ga K x) fs) ∧ Binds K fd ("self" :: fs) []
section
variable {P : Program} {w : World} {K : PySem.W.Frag} {mg : Str → Option Value} {base : Heap} {x q : Str} {st : Stmt} {f : Addr} {fd : FuncData}
theorem vis_of {N ps : List Str} {sc : Scope} (S : FnScope N ps sc) {y : Str} (h : y ∈ ps) : Vis sc y := (S.par y h).imp id .inl
theorem ini2 {f1 f2 : Str} (F : Fun K "__init__" q st f fd) (S : FnScope ["self", f1, f2] ["self", f1, f2] (defScope st)) (E : ErrK K x [f1, f2])
    (hbd : ∃ a1 a2 a3 a4 b1 b2 b3 b4 : Pos, defBody st = [.Assign [.Attribute (.Name "self" a1) f1 a2] (.Name f1 a3) a4, .Assign [.Attribute (.Name "self" b1) f2 b2] (.Name f2 b3) b4])
    (d1 : (f1 == ("__debug__" : Str)) = false := by decide) (c1 : (f1 == ("__classdict__" : Str)) = false := by decide) (d2 : (f2 == ("__debug__" : Str)) = false := by decide) (c2 : (f2 == ("__classdict__" : Str)) = false := by decide) :
    FnOk P w K mg base CX0 1 f fd ["self", f1, f2] (spIni (He.ga K x) [f1, f2]) := by
  obtain ⟨a1, a2, a3, a4, b1, b2, b3, b4, hbd⟩ := hbd
  refine F.ok S (fun vs H Q E h => ?_) (fun cdv A outer s H vs Q E' hr h => ?_)
  · obtain ⟨a, ws, rfl, hl, _⟩ := h
    simp [hl]
  · obtain ⟨a, ws, rfl, hl, ha, k⟩ := h
    match ws, hl with
    | [v1, v2], _ =>
      rw [hbd]
      have vs0 : Vis (defScope st) "self" := vis_of S (by simp)
      have vs1 : Vis (defScope st) f1 := vis_of S (by simp)
      have vs2 : Vis (defScope st) f2 := vis_of S (by simp)
      refine ⟨_, pss_cons (ps_ost (pe_var (i := 0) rfl vs0) (pe_var (i := 1) rfl vs1 d1 c1)) (pss_one (ps_ost (pe_var (i := 0) rfl vs0) (pe_var (i := 2) rfl vs2 d2 c2))), ?_⟩
      refine ⟨v1, rfl, .ref a, rfl, a, He.ga K x, rfl, E.ox, E.no f1 (by simp), .inl ⟨ha, fun dx hdx hne => ?_⟩⟩
      refine ⟨v2, rfl, .ref a, rfl, a, He.ga K x, rfl, E.ox, E.no f2 (by simp), .inr ⟨dx, [(f1, v1)], upd_same, by rw [upd_ne hne]; exact upd_same, (by show 1 ≤ 900; decide), ?_⟩⟩
      refine k dx _ hdx hne ?_ upd_same fun b o hb e => ?_
      · rw [upd_ne (Ne.symm hne)]
        exact upd_same
      · rw [upd_ne (ne_of_none e hdx), upd_ne hb, upd_ne (ne_of_none e hdx)]
        exact e
theorem ini1 {f1 : Str} (F : Fun K "__init__" q st f fd) (S : FnScope ["self", f1] ["self", f1] (defScope st)) (E : ErrK K x [f1])
    (hbd : ∃ a1 a2 a3 a4 : Pos, defBody st = [.Assign [.Attribute (.Name "self" a1) f1 a2] (.Name f1 a3) a4])
    (d1 : (f1 == ("__debug__" : Str)) = false := by decide) (c1 : (f1 == ("__classdict__" : Str)) = false := by decide) :
    FnOk P w K mg base CX0 1 f fd ["self", f1] (spIni (He.ga K x) [f1]) := by
  obtain ⟨a1, a2, a3, a4, hbd⟩ := hbd
  refine F.ok S (fun vs H Q E h => ?_) (fun cdv A outer s H vs Q E' hr h => ?_)
  · obtain ⟨a, ws, rfl, hl, _⟩ := h
    simp [hl]
  · obtain ⟨a, ws, rfl, hl, ha, k⟩ := h
    match ws, hl with
    | [v1], _ =>
      rw [hbd]
      have vs0 : Vis (defScope st) "self" := vis_of S (by simp)
      have vs1 : Vis (defScope st) f1 := vis_of S (by simp)
      refine ⟨_, pss_one (ps_ost (pe_var (i := 0) rfl vs0) (pe_var (i := 1) rfl vs1 d1 c1)), ?_⟩
      refine ⟨v1, rfl, .ref a, rfl, a, He.ga K x, rfl, E.ox, E.no f1 (by simp), .inl ⟨ha, fun dx hdx hne => ?_⟩⟩
      refine k dx _ hdx hne upd_same ?_ fun b o hb e => ?_
      · rw [upd_ne hne]
        exact upd_same
      · rw [upd_ne hb, upd_ne (ne_of_none e hdx)]
        exact e
end
section
variable {X : Cx} {c : Cz} {W : WX} {a b d : Expr} {ea eb ed : Ev} {pos : Pos} {es : List Expr} {ra : EvA} {x : Str} {p cp : Pos}
theorem ms_err {fs : List Str} (T : OkE X.prog X.w X.K X.mg X.base x fs) (hr : Room 2 X.A) (ha : MA X c W (a :: es) ra) (hg : Gl X x := by rfl) (hc : X.calm = true := by rfl)
    (hdb : (x == ("__debug__" : Str)) = false := by decide) (he : starEach (a :: es) X.env = (false, eval a X.env) :: starEach es X.env := by rfl) (hpl : (backTo cp (starEach es X.env)).any (·.1) = false := by rfl) :
    MS X c W (.Raise (some (.Call (.Name x p) (a :: es) [] cp)) none pos) (sRaise x fs ra) := by
  obtain ⟨gm, er, fd, ok, bd⟩ := T
  exact ms_raise ⟨er.ox, gm, er.iC, er.tI, ok, bd⟩ hr ha hg hc hdb he hpl
end

/-- a handler of one class -/
def dec1 (x : Str) : Str → Option Bool := fun m => if m = x then some true else none
theorem dec1_ok {K : PySem.W.Frag} {mg : Str → Option Value} {x : Str} {C : Addr} (h : PySem.W.exmOne K (.ref C) (.ref C) = some true) (hg : mg x = some (.ref C)) :
    ∀ (m : Str) (b : Bool) (cls : Value), dec1 x m = some b → mg m = some cls → PySem.W.exmOne K cls (.ref C) = some b := fun m b cls e hm => by
  unfold dec1 at e
  split at e
  · rename_i hx
    subst hx
    cases e
    rw [hg] at hm
    cases hm
    exact h
  · cases e

/-! ### the head's facts -/
/-- a def without defaults -/
theorem fun_of {K : PySem.W.Frag} {x q : Str} {st : Stmt} {f : Addr} {fd : FuncData} (F : FunD K x q (defArgs st) (defBody st) (defScope st) [] [] f fd) : Fun K x q st f fd := by
  obtain ⟨⟨oc, od, dV, kV, doc, pm, an, cdv, ct, osl, e, lk, hcd, hD, hK⟩, kp⟩ := F
  rcases hD with ⟨_, rfl⟩ | ⟨h, _⟩
  · exact ⟨⟨oc, od, kV, doc, pm, an, cdv, ct, osl, e, lk, hcd⟩, kp⟩
  · exact absurd rfl h
def freeB (xs : List Str) (K : PySem.W.Frag) : Bool := xs.all fun x => decide (PySem.W.nsIn K mainGlobals x = some none)
def gloB (xs : List Str) (K : PySem.W.Frag) : Bool := xs.all fun x => decide (PySem.W.nsIn K mainGlobals x = some (some (.ref (He.ga K x))))
def bltB (xs : List (Str × String)) (K : PySem.W.Frag) : Bool := xs.all fun p => decide (PySem.W.nsIn K mainGlobals p.1 = some (some (.builtin p.2)))
def exmB (xs : List (Str × Str × Bool)) (K : PySem.W.Frag) : Bool := xs.all fun p => decide (PySem.W.exmOne K (.ref (He.ga K p.1)) (.ref (He.ga K p.2.1)) = some p.2.2)
theorem free_of {xs : List Str} {K : PySem.W.Frag} {h : Heap} {mg : Str → Option Value} (X : K.In h) (G : h.Ns mainGlobals mg) (c : freeB xs K = true) {x : Str} (hx : x ∈ xs) : mg x = none :=
  PySem.W.mg_none_of X G (of_decide_eq_true (List.all_eq_true.mp c x hx))
theorem glo_of {xs : List Str} {K : PySem.W.Frag} {h : Heap} {mg : Str → Option Value} (X : K.In h) (G : h.Ns mainGlobals mg) (c : gloB xs K = true) {x : Str} (hx : x ∈ xs) : mg x = some (.ref (He.ga K x)) :=
  PySem.W.mg_of X G (of_decide_eq_true (List.all_eq_true.mp c x hx))
theorem blt_of {xs : List (Str × String)} {K : PySem.W.Frag} {h : Heap} {mg : Str → Option Value} (X : K.In h) (G : h.Ns mainGlobals mg) (c : bltB xs K = true) {x : Str} {i : String} (hx : (x, i) ∈ xs) : mg x = some (.builtin i) :=
  PySem.W.mg_of X G (of_decide_eq_true (List.all_eq_true.mp c (x, i) hx))
theorem exm_of {xs : List (Str × Str × Bool)} {K : PySem.W.Frag} (c : exmB xs K = true) {x y : Str} {b : Bool} (hx : (x, y, b) ∈ xs) : PySem.W.exmOne K (.ref (He.ga K x)) (.ref (He.ga K y)) = some b :=
  of_decide_eq_true (List.all_eq_true.mp c (x, y, b) hx)
/-- the Hook: the defs, and one Bool of the part that is kept -/
abbrev AlM : Type := He.AlD × Bool
def partM (g : Addr → Option Obj) (n : Nat) : PySem.W.Frag := He.frG g (He.asD g n)
def obsM (n : Nat) (fn : List He.DefD) (ex : PySem.W.Frag → Bool) (g : Addr → Option Obj) : AlM := (He.obsD [] fn (partM g n), ex (partM g n))
structure SaysM (fn : List He.DefD) (ex : PySem.W.Frag → Bool) (K : PySem.W.Frag) : Prop where
  defs : He.SaysD [] fn K
  more : ex K = true
theorem saysM_of {n : Nat} {fn : List He.DefD} {ex : PySem.W.Frag → Bool} {g : Addr → Option Obj} (e : obsM n fn ex g = (He.valD fn, true)) : SaysM fn ex (partM g n) :=
  ⟨congrArg (fun z : AlM => z.1) e, congrArg (fun z : AlM => z.2) e⟩
def hookM (n : Nat) (fn : List He.DefD) (ex : PySem.W.Frag → Bool) : PySem.W.Hook where
  α := AlM
  obs := fun s => obsM n fn ex s.heap.get?
  val := fun _ => (He.valD fn, true)
  says := fun _ h => ∃ K : PySem.W.Frag, K.In h ∧ SaysM fn ex K
  of := fun _ _ e => ⟨_, He.frG_in, saysM_of e⟩
  keeps := fun _ _ _ ⟨K, hK, c⟩ k => ⟨K, PySem.W.Frag.In.keeps hK k, c⟩
theorem obsM_eq {n : Nat} {fn : List He.DefD} {ex : PySem.W.Frag → Bool} {g : Addr → Option Obj} {s : Shared} (h : ∀ a, g a = s.heap.get? a) : obsM n fn ex g = (hookM n fn ex).obs s := by
  have e : g = s.heap.get? := funext h
  rw [e]
  exact rfl
/-! ### the end -/
theorem frz_of {K : PySem.W.Frag} {H : Hp} {a : Addr} {xs : List V} (hO : Only H) (h : SqL K H a xs) : Frz K H a xs := by
  rcases h with (h | ⟨o, h⟩) | h
  · rcases hO a with e | ⟨o, ys, e⟩
    · rw [e] at h; cases h
    · rw [e] at h; cases h
  · exact .inl ⟨o, h⟩
  · exact .inr h
theorem ints_rep {c : Cz} {H : Hp} {φ : List Addr} : ∀ ns : List Int, RepL c H φ (ns.map D.int) (ns.map V.int)
  | [] => .nil
  | n :: ns => .cons rep_int (ints_rep ns)
/-- the law's promise, from what its function on data gives -/
theorem law_sp {K : PySem.W.Frag} {mg : Str → Option Value} {rf : List D → Sto → Res D} {ns : List Int} {H : Hp} {a : Addr} (hO : Only H) (hS : SqL K H a (ns.map V.int)) (h : ∃ S, rf [.frl (ns.map D.int)] [] = .ok (.bl true) S) :
    spEv ⟨K, mg, none⟩ 1 rf [.ref a] H (fun v _ => v = .bl true) fun _ _ _ => False := by
  obtain ⟨S, e⟩ := h
  refine ⟨rfl, [], [.frl (ns.map D.int)], [], .cons ?_ .nil, ⟨List.nodup_nil, rfl, fun l xs h => by simp at h⟩, ?_⟩
  · unfold RepV
    exact ⟨a, _, rfl, frz_of hO hS, ints_rep ns⟩
  · rw [e]
    intro φ' H' v _ _ r
    unfold RepV at r
    exact r
theorem walk_bits {l : PySem.W.OpenLaw} {n k : Nat} {q : Program} {loose : List Str} {XP : (Str → Option Value) → Heap → Prop} {YP : World → Heap → Prop} {d : DefRec} {x : Str}
    (hn : l.most = some n) (hn2 : n ≤ sizeLine) (hdf : d.params.defaults = []) (hr : Room k callerA)
    (F : ∀ (w : World) (mg : Str → Option Value) (fa : Addr) (h : Heap), YP w h → h.Ns mainGlobals mg → mg d.name = some (.ref fa) →
      ∃ (K : PySem.W.Frag) (fd : FuncData) (sp : Sp), K.In h ∧ (∀ (s : Shared) (u : Value), BindsTo s fd ⟨[u], []⟩ [(x, u)]) ∧
        (∀ (H : Hp) (a : Addr) (ns : List Int), ns.length ≤ n → (∀ z ∈ ns, Builtin.Int.intBits z ≤ 1048576) → Only H → SqL K H a (ns.map V.int) → sp [.ref a] H (fun v _ => v = .bl true) fun _ _ _ => False) ∧
        ∀ base : Heap, K.In base → base.Ns mainGlobals mg → FnOk l.prog w K mg base (L2.CX l.prog w) k fa fd [x] sp) :
    PySem.W.WalkO q loose XP YP l.row.toRowW d [] (fun f vs => PySem.call f vs) := by
  refine Att.attach_callB hn hdf fun w s₀ s₁ mg mb fa o pm cd doc a vs ns G Y ho hd hcd hmg hobj hints hlen hbits hg => ?_
  obtain ⟨K, fd, sp, KX, hb, hsp, hF⟩ := F w mg fa _ Y G.T.g hmg
  refine law_call KX G.T.g G.T.b G.T.builtins G.T.nolimit hg hobj hints (Nat.le_trans hlen hn2) hr hF hb (fun H hO hS => hsp H a ns hlen hbits hO hS) fun H e s' z => ?_
  obtain ⟨_, _, _, _, _, _, _, _, _, _, _, _, z⟩ := z
  exact z.elim
end MP
end
section
set_option Elab.async false
set_option linter.all false
set_option maxRecDepth 100000
set_option maxHeartbeats 4000000
/-! the evaluators of the text -/
namespace LawM
open PySem PySem.Spec PyProof.Rows L2 MP
noncomputable section
abbrev N_settle : List Str := ["top", "bottom", "common"]
def ev_settle : Es :=
 (sSeq (sAsg 2 (eL dGcd (aCons (eVar 0) (aCons (eVar 1) aNil))))
 (sSeq (sIf (eTest (eB dLt (eVar 1) (eC (.int 0))))
 (sAsg 2 (eU dNeg (eVar 2)))
 sSkip)
 (sRet (eTup (aCons (eB dDiv (eVar 0) (eVar 2)) (aCons (eB dDiv (eVar 1) (eVar 2)) aNil))))))
def rf_settle : List D → Sto → Res D := runDef 3 ev_settle

abbrev N_is_integer : List Str := ["thing"]
def ev_is_integer : Es :=
 (sRet (eAnd (eU (dIsi "int") (eVar 0)) (eNot (eU (dIsi "bool") (eVar 0)))))
def rf_is_integer : List D → Sto → Res D := runDef 1 ev_is_integer

abbrev N_is_quotient : List Str := ["thing", "top", "bottom"]
def ev_is_quotient : Es :=
 (sSeq (sIf (eOrT (eNotT (eTest (eU (dIsi "tuple") (eVar 0)))) (eTest (eB dNe (eL dLen (aCons (eVar 0) aNil)) (eC (.int 2)))))
 (sRet (eC (.bl false)))
 sSkip)
 (sSeq (sBind (bTup 2 (bCons (bName 1) (bCons (bName 2) bNil))) (eVar 0))
 (sSeq (sIf (eOrT (eNotT (eTest (eCall 1 rf_is_integer (aCons (eVar 1) aNil)))) (eNotT (eTest (eCall 1 rf_is_integer (aCons (eVar 2) aNil)))))
 (sRet (eC (.bl false)))
 sSkip)
 (sRet (eAnd (eB dGe (eVar 2) (eC (.int 1))) (eB dEq (eL dGcd (aCons (eVar 1) (aCons (eVar 2) aNil))) (eC (.int 1))))))))
def rf_is_quotient : List D → Sto → Res D := runDef 3 ev_is_quotient

abbrev N__is_row : List Str := ["row", "thing"]
def ev__is_row : Es :=
 (sRet (eAnd (eU (dIsi "tuple") (eVar 0)) (eL dAll (aCons (eLc (iSeq (eVar 0)) (bName 1) tTrue (eCall 1 rf_is_quotient (aCons (eVar 1) aNil)) [1]) aNil))))
def rf__is_row : List D → Sto → Res D := runDef 2 ev__is_row

abbrev N_total : List Str := ["row", "bottom", "quotient", "top"]
def ev_total : Es :=
 (sSeq (sIf (eNotT (eTest (eCall 1 rf__is_row (aCons (eVar 0) aNil))))
 (sRaise "NotUsable" ["word", "at"] (aCons (eC (.str "row")) (aCons (eU dNeg (eC (.int 1))) aNil)))
 sSkip)
 (sSeq (sAsg 1 (eC (.int 1)))
 (sSeq (sFor (iSeq (eVar 0)) (bName 2)
 (sAsg 1 (eL dLcm (aCons (eVar 1) (aCons (eB dIx (eVar 2) (eC (.int 1))) aNil)))))
 (sSeq (sAsg 3 (eL dSum (aCons (eLc (iSeq (eVar 0)) (bName 2) tTrue (eB dMul (eB dIx (eVar 2) (eC (.int 0))) (eB dDiv (eVar 1) (eB dIx (eVar 2) (eC (.int 1))))) [2]) aNil)))
 (sRet (eCall 2 rf_settle (aCons (eVar 3) (aCons (eVar 1) aNil))))))))
def rf_total : List D → Sto → Res D := runDef 4 ev_total

abbrev N_weighed : List Str := ["row", "others", "bottom", "one", "other", "top"]
def ev_weighed : Es :=
 (sSeq (sIf (eNotT (eTest (eCall 1 rf__is_row (aCons (eVar 0) aNil))))
 (sRaise "NotUsable" ["word", "at"] (aCons (eC (.str "row")) (aCons (eU dNeg (eC (.int 1))) aNil)))
 sSkip)
 (sSeq (sIf (eOrT (eNotT (eTest (eCall 1 rf__is_row (aCons (eVar 1) aNil)))) (eTest (eB dNe (eL dLen (aCons (eVar 1) aNil)) (eL dLen (aCons (eVar 0) aNil)))))
 (sRaise "NotUsable" ["word", "at"] (aCons (eC (.str "others")) (aCons (eU dNeg (eC (.int 1))) aNil)))
 sSkip)
 (sSeq (sAsg 2 (eC (.int 1)))
 (sSeq (sFor (iRange zipS (aCons (eVar 0) (aCons (eVar 1) aNil))) (bTup 2 (bCons (bName 3) (bCons (bName 4) bNil)))
 (sAsg 2 (eL dLcm (aCons (eVar 2) (aCons (eB dMul (eB dIx (eVar 3) (eC (.int 1))) (eB dIx (eVar 4) (eC (.int 1)))) aNil)))))
 (sSeq (sAsg 5 (eC (.int 0)))
 (sSeq (sFor (iRange zipS (aCons (eVar 0) (aCons (eVar 1) aNil))) (bTup 2 (bCons (bName 3) (bCons (bName 4) bNil)))
 (sAug 5 (dI0 fun i j => .int (i + j)) (eB dMul (eB dMul (eB dIx (eVar 3) (eC (.int 0))) (eB dIx (eVar 4) (eC (.int 0)))) (eB dDiv (eVar 2) (eB dMul (eB dIx (eVar 3) (eC (.int 1))) (eB dIx (eVar 4) (eC (.int 1))))))))
 (sRet (eCall 2 rf_settle (aCons (eVar 5) (aCons (eVar 2) aNil))))))))))
def rf_weighed : List D → Sto → Res D := runDef 6 ev_weighed

abbrev N__need_some : List Str := ["row"]
def ev__need_some : Es :=
 (sIf (eOrT (eNotT (eTest (eCall 1 rf__is_row (aCons (eVar 0) aNil)))) (eTest (eB dEq (eL dLen (aCons (eVar 0) aNil)) (eC (.int 0)))))
 (sRaise "NotUsable" ["word", "at"] (aCons (eC (.str "row")) (aCons (eU dNeg (eC (.int 1))) aNil)))
 sSkip)
def rf__need_some : List D → Sto → Res D := runDef 1 ev__need_some

abbrev N_least_of : List Str := ["row", "least", "quotient"]
def ev_least_of : Es :=
 (sSeq (sExpr (eCall 1 rf__need_some (aCons (eVar 0) aNil)))
 (sSeq (sAsg 1 (eB dIx (eVar 0) (eC (.int 0))))
 (sSeq (sFor (iSeq (eVar 0)) (bName 2)
 (sIf (eTest (eB dLt (eB dMul (eB dIx (eVar 2) (eC (.int 0))) (eB dIx (eVar 1) (eC (.int 1)))) (eB dMul (eB dIx (eVar 1) (eC (.int 0))) (eB dIx (eVar 2) (eC (.int 1))))))
 (sAsg 1 (eVar 2))
 sSkip))
 (sRet (eVar 1)))))
def rf_least_of : List D → Sto → Res D := runDef 3 ev_least_of

abbrev N_greatest_of : List Str := ["row", "greatest", "quotient"]
def ev_greatest_of : Es :=
 (sSeq (sExpr (eCall 1 rf__need_some (aCons (eVar 0) aNil)))
 (sSeq (sAsg 1 (eB dIx (eVar 0) (eC (.int 0))))
 (sSeq (sFor (iSeq (eVar 0)) (bName 2)
 (sIf (eTest (eB dGt (eB dMul (eB dIx (eVar 2) (eC (.int 0))) (eB dIx (eVar 1) (eC (.int 1)))) (eB dMul (eB dIx (eVar 1) (eC (.int 0))) (eB dIx (eVar 2) (eC (.int 1))))))
 (sAsg 1 (eVar 2))
 sSkip))
 (sRet (eVar 1)))))
def rf_greatest_of : List D → Sto → Res D := runDef 3 ev_greatest_of

abbrev N__need_two : List Str := ["one", "other"]
def ev__need_two : Es :=
 (sSeq (sIf (eNotT (eTest (eCall 1 rf_is_quotient (aCons (eVar 0) aNil))))
 (sRaise "NotUsable" ["word", "at"] (aCons (eC (.str "one")) (aCons (eU dNeg (eC (.int 1))) aNil)))
 sSkip)
 (sIf (eNotT (eTest (eCall 1 rf_is_quotient (aCons (eVar 1) aNil))))
 (sRaise "NotUsable" ["word", "at"] (aCons (eC (.str "other")) (aCons (eU dNeg (eC (.int 1))) aNil)))
 sSkip))
def rf__need_two : List D → Sto → Res D := runDef 2 ev__need_two

abbrev N_plus : List Str := ["one", "other"]
def ev_plus : Es :=
 (sSeq (sExpr (eCall 2 rf__need_two (aCons (eVar 0) (aCons (eVar 1) aNil))))
 (sRet (eCall 2 rf_settle (aCons (eB dAdd (eB dMul (eB dIx (eVar 0) (eC (.int 0))) (eB dIx (eVar 1) (eC (.int 1)))) (eB dMul (eB dIx (eVar 1) (eC (.int 0))) (eB dIx (eVar 0) (eC (.int 1))))) (aCons (eB dMul (eB dIx (eVar 0) (eC (.int 1))) (eB dIx (eVar 1) (eC (.int 1)))) aNil)))))
def rf_plus : List D → Sto → Res D := runDef 2 ev_plus

abbrev N_times : List Str := ["one", "other"]
def ev_times : Es :=
 (sSeq (sExpr (eCall 2 rf__need_two (aCons (eVar 0) (aCons (eVar 1) aNil))))
 (sRet (eCall 2 rf_settle (aCons (eB dMul (eB dIx (eVar 0) (eC (.int 0))) (eB dIx (eVar 1) (eC (.int 0)))) (aCons (eB dMul (eB dIx (eVar 0) (eC (.int 1))) (eB dIx (eVar 1) (eC (.int 1)))) aNil)))))
def rf_times : List D → Sto → Res D := runDef 2 ev_times

abbrev N_is_less : List Str := ["one", "other"]
def ev_is_less : Es :=
 (sSeq (sExpr (eCall 2 rf__need_two (aCons (eVar 0) (aCons (eVar 1) aNil))))
 (sRet (eB dLt (eB dMul (eB dIx (eVar 0) (eC (.int 0))) (eB dIx (eVar 1) (eC (.int 1)))) (eB dMul (eB dIx (eVar 1) (eC (.int 0))) (eB dIx (eVar 0) (eC (.int 1)))))))
def rf_is_less : List D → Sto → Res D := runDef 2 ev_is_less

abbrev N__law_mixed : List Str := ["_law_cell", "_law_tick", "_law_first", "_law_second", "_law_third"]
def ev__law_mixed : Es :=
 (sSeq (sAsg 2 (eB dMod (eL dInt (aCons (eB dAdd (eB dAdd (eB dMul (eVar 0) (eC (.int 50051))) (eB dMul (eVar 1) (eC (.int 72019)))) (eC (.int 13))) aNil)) (eC (.int 2147480027))))
 (sSeq (sAsg 3 (eB dMod (eL dInt (aCons (eB dAdd (eB dAdd (eB dMul (eVar 2) (eVar 2)) (eB dMul (eVar 1) (eC (.int 30029)))) (eC (.int 5))) aNil)) (eC (.int 2147470033))))
 (sSeq (sAsg 4 (eB dMod (eL dInt (aCons (eB dAdd (eB dAdd (eB dDiv (eB dMul (eVar 3) (eVar 3)) (eC (.int 4099))) (eB dMul (eVar 3) (eC (.int 20023)))) (eVar 1)) aNil)) (eC (.int 2147460041))))
 (sRet (eB dDiv (eVar 4) (eC (.int 8)))))))
def rf__law_mixed : List D → Sto → Res D := runDef 5 ev__law_mixed

abbrev N__law_pool : List Str := ["_law_script", "_law_seed", "_law_cell"]
def ev__law_pool : Es :=
 (sSeq (sAsg 1 (eC (.int 0)))
 (sSeq (sFor (iSeq (eVar 0)) (bName 2)
 (sAsg 1 (eB dMod (eL dInt (aCons (eB dAdd (eB dAdd (eB dMul (eVar 1) (eC (.int 31397))) (eB dMul (eVar 2) (eC (.int 2)))) (eC (.int 5))) aNil)) (eC (.int 2147450033)))))
 (sRet (eLst (aCons (eL dListOf (aCons (eVar 0) aNil)) (aCons (eC (.int 0)) (aCons (eC (.int 0)) (aCons (eVar 1) (aCons (eL dLen (aCons (eVar 0) aNil)) aNil)))))))))
def rf__law_pool : List D → Sto → Res D := runDef 3 ev__law_pool

abbrev N__law_take : List Str := ["_law_pool_here", "_law_size", "_law_cell", "_law_digit"]
def ev__law_take : Es :=
 (sSeq (sIf (eTest (eB dEq (eB dIx (eVar 0) (eC (.int 4))) (eC (.int 0))))
 (sRet (eC (.int 0)))
 sSkip)
 (sSeq (sIf (eAndT (eTest (eB dEq (eB dIx (eVar 0) (eC (.int 1))) (eC (.int 0)))) (eTest (eB dGt (eL dLen (aCons (eB dIx (eVar 0) (eC (.int 0))) aNil)) (eC (.int 0)))))
 (sSeq (sAsg 2 (eL dAbs (aCons (eMt mPopAt (eB dIx (eVar 0) (eC (.int 0))) (aCons (eC (.int 0)) aNil)) aNil)))
 (sSeq (sIf (eTest (eB dLt (eVar 2) (eB dPow (eC (.int 10)) (eC (.int 18)))))
 (sSeq (sSub gSet (eVar 0) (eC (.int 2)) (eB dAdd (eB dIx (eVar 0) (eC (.int 2))) (eC (.int 1))))
 (sRet (eB dMod (eL dInt (aCons (eCall 2 rf__law_mixed (aCons (eVar 2) (aCons (eB dIx (eVar 0) (eC (.int 2))) aNil))) aNil)) (eVar 1))))
 sSkip)
 (sSub gSet (eVar 0) (eC (.int 1)) (eB dMod (eL dInt (aCons (eVar 2) aNil)) (eB dMul (eB dMul (eB dPow (eC (.int 10)) (eC (.int 64))) (eB dPow (eC (.int 10)) (eC (.int 64)))) (eB dPow (eC (.int 10)) (eC (.int 64))))))))
 sSkip)
 (sSeq (sIf (eTest (eB dGt (eB dIx (eVar 0) (eC (.int 1))) (eC (.int 0))))
 (sSeq (sAsg 3 (eB dMod (eL dInt (aCons (eB dIx (eVar 0) (eC (.int 1))) aNil)) (eVar 1)))
 (sSeq (sSub gSet (eVar 0) (eC (.int 1)) (eB dDiv (eB dIx (eVar 0) (eC (.int 1))) (eVar 1)))
 (sRet (eVar 3))))
 sSkip)
 (sSeq (sSub gSet (eVar 0) (eC (.int 2)) (eB dAdd (eB dIx (eVar 0) (eC (.int 2))) (eC (.int 1))))
 (sRet (eB dMod (eL dInt (aCons (eCall 2 rf__law_mixed (aCons (eB dIx (eVar 0) (eC (.int 3))) (aCons (eB dIx (eVar 0) (eC (.int 2))) aNil))) aNil)) (eVar 1)))))))
def rf__law_take : List D → Sto → Res D := runDef 4 ev__law_take

abbrev N__law_whole : List Str := ["_law_value"]
def ev__law_whole : Es :=
 (sRet (eAnd (eU (dIsi "int") (eVar 0)) (eNot (eU (dIsi "bool") (eVar 0)))))
def rf__law_whole : List D → Sto → Res D := runDef 1 ev__law_whole

abbrev N__law_common : List Str := ["_law_high", "_law_low_here"]
def ev__law_common : Es :=
 (sSeq (sWhile (eTest (eB dNe (eVar 1) (eC (.int 0))))
 (sPar 0 1 (eVar 1) (eB dMod (eL dInt (aCons (eVar 0) aNil)) (eVar 1))))
 (sRet (eVar 0)))
def rf__law_common : List D → Sto → Res D := runDef 2 ev__law_common

abbrev N__law_low : List Str := ["_law_top", "_law_bottom", "_law_common_here"]
def ev__law_low : Es :=
 (sSeq (sAsg 2 (eCall 2 rf__law_common (aCons (eL dAbs (aCons (eVar 0) aNil)) (aCons (eVar 1) aNil))))
 (sRet (eTup (aCons (eB dDiv (eVar 0) (eVar 2)) (aCons (eB dDiv (eVar 1) (eVar 2)) aNil)))))
def rf__law_low : List D → Sto → Res D := runDef 3 ev__law_low

abbrev N__law_quotient : List Str := ["_law_value"]
def ev__law_quotient : Es :=
 (sSeq (sIf (eOrT (eNotT (eTest (eU (dIsi "tuple") (eVar 0)))) (eTest (eB dNe (eL dLen (aCons (eVar 0) aNil)) (eC (.int 2)))))
 (sRet (eC (.bl false)))
 sSkip)
 (sSeq (sIf (eOrT (eNotT (eTest (eCall 1 rf__law_whole (aCons (eB dIx (eVar 0) (eC (.int 0))) aNil)))) (eOrT (eNotT (eTest (eCall 1 rf__law_whole (aCons (eB dIx (eVar 0) (eC (.int 1))) aNil)))) (eTest (eB dLt (eB dIx (eVar 0) (eC (.int 1))) (eC (.int 1))))))
 (sRet (eC (.bl false)))
 sSkip)
 (sRet (eB dEq (eCall 2 rf__law_common (aCons (eL dAbs (aCons (eB dIx (eVar 0) (eC (.int 0))) aNil)) (aCons (eB dIx (eVar 0) (eC (.int 1))) aNil))) (eC (.int 1))))))
def rf__law_quotient : List D → Sto → Res D := runDef 1 ev__law_quotient

abbrev N__law_stands : List Str := ["_law_told", "_law_top", "_law_bottom"]
def ev__law_stands : Es :=
 (sRet (eAnd (eCall 1 rf__law_quotient (aCons (eVar 0) aNil)) (eB dEq (eB dMul (eB dIx (eVar 0) (eC (.int 0))) (eVar 2)) (eB dMul (eB dIx (eVar 0) (eC (.int 1))) (eVar 1)))))
def rf__law_stands : List D → Sto → Res D := runDef 3 ev__law_stands

abbrev N__law_draw : List Str := ["_law_pool_here", "_law_style", "_law_tops", "_law_top", "_law_bottom", "_law_head"]
def ev__law_draw : Es :=
 (sSeq (sIf (eTest (eB dEq (eVar 1) (eC (.int 1))))
 (sSeq (sAsg 2 (eLst (aCons (eB dPow (eC (.int 10)) (eC (.int 59))) (aCons (eB dAdd (eB dPow (eC (.int 10)) (eC (.int 58))) (eC (.int 1))) (aCons (eB dPow (eC (.int 10)) (eC (.int 30))) (aCons (eC (.int 7)) aNil))))))
 (sSeq (sAsg 3 (eB dAdd (eB dIx (eVar 2) (eCall 2 rf__law_take (aCons (eVar 0) (aCons (eC (.int 4)) aNil)))) (eCall 2 rf__law_take (aCons (eVar 0) (aCons (eC (.int 9999)) aNil)))))
 (sSeq (sAsg 4 (eB dAdd (eB dIx (eLst (aCons (eB dPow (eC (.int 10)) (eC (.int 59))) (aCons (eB dAdd (eB dPow (eC (.int 10)) (eC (.int 57))) (eC (.int 3))) (aCons (eB dPow (eC (.int 10)) (eC (.int 29))) (aCons (eC (.int 1)) aNil))))) (eCall 2 rf__law_take (aCons (eVar 0) (aCons (eC (.int 4)) aNil)))) (eCall 2 rf__law_take (aCons (eVar 0) (aCons (eC (.int 9999)) aNil)))))
 (sRet (eCall 2 rf__law_low (aCons (eB dSub (eVar 3) (eB dMul (eB dMul (eC (.int 2)) (eVar 3)) (eCall 2 rf__law_take (aCons (eVar 0) (aCons (eC (.int 2)) aNil))))) (aCons (eVar 4) aNil)))))))
 sSkip)
 (sSeq (sIf (eTest (eB dEq (eVar 1) (eC (.int 2))))
 (sSeq (sAsg 5 (eB dMul (eB dMul (eB dMul (eB dMul (eB dPow (eC (.int 10)) (eC (.int 60))) (eB dPow (eC (.int 10)) (eC (.int 60)))) (eB dPow (eC (.int 10)) (eC (.int 60)))) (eB dPow (eC (.int 10)) (eC (.int 60)))) (eB dPow (eC (.int 10)) (eC (.int 59)))))
 (sRet (eCall 2 rf__law_low (aCons (eB dSub (eCall 2 rf__law_take (aCons (eVar 0) (aCons (eC (.int 9999)) aNil))) (eVar 5)) (aCons (eB dSub (eB dMul (eC (.int 9)) (eVar 5)) (eCall 2 rf__law_take (aCons (eVar 0) (aCons (eC (.int 9999)) aNil)))) aNil)))))
 sSkip)
 (sSeq (sIf (eTest (eB dEq (eCall 2 rf__law_take (aCons (eVar 0) (aCons (eC (.int 3)) aNil))) (eC (.int 2))))
 (sRet (eB dIx (eLst (aCons (eTup (aCons (eC (.int 1)) (aCons (eC (.int 2)) aNil))) (aCons (eTup (aCons (eC (.int 0)) (aCons (eC (.int 1)) aNil))) (aCons (eTup (aCons (eU dNeg (eC (.int 1))) (aCons (eC (.int 3)) aNil))) (aCons (eTup (aCons (eC (.int 1)) (aCons (eC (.int 1)) aNil))) (aCons (eTup (aCons (eU dNeg (eC (.int 1))) (aCons (eC (.int 1)) aNil))) (aCons (eTup (aCons (eC (.int 2)) (aCons (eC (.int 3)) aNil))) (aCons (eTup (aCons (eC (.int 5)) (aCons (eC (.int 1)) aNil))) aNil)))))))) (eCall 2 rf__law_take (aCons (eVar 0) (aCons (eC (.int 7)) aNil)))))
 sSkip)
 (sRet (eCall 2 rf__law_low (aCons (eB dSub (eCall 2 rf__law_take (aCons (eVar 0) (aCons (eC (.int 31)) aNil))) (eC (.int 15))) (aCons (eB dAdd (eC (.int 1)) (eCall 2 rf__law_take (aCons (eVar 0) (aCons (eC (.int 16)) aNil)))) aNil)))))))
def rf__law_draw : List D → Sto → Res D := runDef 6 ev__law_draw

abbrev N__law_rows : List Str := ["_law_pool_here", "_law_pick", "_law_style", "_law_length", "_law_left", "_law_k", "_law_right"]
def ev__law_rows : Es :=
 (sSeq (sAsg 1 (eCall 2 rf__law_take (aCons (eVar 0) (aCons (eC (.int 32)) aNil))))
 (sSeq (sAsg 2 (eC (.int 0)))
 (sSeq (sAsg 3 (eCall 2 rf__law_take (aCons (eVar 0) (aCons (eC (.int 8)) aNil))))
 (sSeq (sIf (eTest (eB dGt (eVar 1) (eC (.int 27))))
 (sAsg 3 (eC (.int 40)))
 (sIf (eTest (eB dGt (eVar 1) (eC (.int 23))))
 (sSeq (sAsg 2 (eC (.int 1)))
 (sAsg 3 (eB dAdd (eVar 3) (eC (.int 2)))))
 (sIf (eTest (eB dEq (eVar 1) (eC (.int 23))))
 (sSeq (sAsg 2 (eC (.int 2)))
 (sAsg 3 (eC (.int 4))))
 sSkip)))
 (sSeq (sAsg 4 (eLc (iRange rng1 (aCons (eVar 3) aNil)) (bName 5) tTrue (eCall 2 rf__law_draw (aCons (eVar 0) (aCons (eVar 2) aNil))) [5]))
 (sSeq (sAsg 6 (eLc (iRange rng1 (aCons (eVar 3) aNil)) (bName 5) tTrue (eCall 2 rf__law_draw (aCons (eVar 0) (aCons (eVar 2) aNil))) [5]))
 (sSeq (sIf (eAndT (eTest (eB dGt (eVar 3) (eC (.int 1)))) (eTest (eB dEq (eCall 2 rf__law_take (aCons (eVar 0) (aCons (eC (.int 4)) aNil))) (eC (.int 3)))))
 (sSub gSet (eVar 4) (eCall 2 rf__law_take (aCons (eVar 0) (aCons (eVar 3) aNil))) (eB dIx (eVar 4) (eCall 2 rf__law_take (aCons (eVar 0) (aCons (eVar 3) aNil)))))
 sSkip)
 (sRet (eLst (aCons (eVar 4) (aCons (eVar 6) (aCons (eVar 2) aNil))))))))))))
def rf__law_rows : List D → Sto → Res D := runDef 7 ev__law_rows

abbrev N__law_bad : List Str := ["_law_pool_here", "_law_odd"]
def ev__law_bad : Es :=
 (sSeq (sAsg 1 (eLst (aCons (eTup (aCons (eC (.int 2)) (aCons (eC (.int 4)) aNil))) (aCons (eTup (aCons (eC (.bl true)) (aCons (eC (.int 1)) aNil))) (aCons (eTup (aCons (eC (.int 1)) (aCons (eC (.bl true)) aNil))) (aCons (eTup (aCons (eC (.int 0)) (aCons (eC (.int 2)) aNil))) (aCons (eTup (aCons (eC (.int 1)) (aCons (eU dNeg (eC (.int 2))) aNil))) (aCons (eTup (aCons (eC (.int 1)) (aCons (eC (.int 0)) aNil))) (aCons (eLst (aCons (eC (.int 1)) (aCons (eC (.int 2)) aNil))) (aCons (eTup (aCons (eC (.int 1)) aNil)) (aCons (eTup (aCons (eC (.int 1)) (aCons (eC (.int 2)) (aCons (eC (.int 3)) aNil)))) (aCons (eC (.int 5)) (aCons (eC .non) (aCons (eC (.str "1/2")) (aCons (eTup aNil) (aCons (eTup (aCons (eC (.str "1")) (aCons (eC (.int 2)) aNil))) aNil))))))))))))))))
 (sRet (eB dIx (eVar 1) (eCall 2 rf__law_take (aCons (eVar 0) (aCons (eC (.int 14)) aNil))))))
def rf__law_bad : List D → Sto → Res D := runDef 2 ev__law_bad

abbrev N__law_ask : List Str := ["_law_deed", "_law_left", "_law_right", "_law_named", "e"]
def ev__law_ask : Es :=
 (sTryAs 4 (dec1 "NotUsable") (sSeq (sIf (eTest (eB dEq (eVar 0) (eC (.int 0))))
 (sRet (eTup (aCons (eC (.str "told")) (aCons (eIf (eTest (eVar 3)) (eKw 0 1 1 pm01 rf_total aNil (aCons (eVar 1) aNil)) (eCall 1 rf_total (aCons (eVar 1) aNil))) aNil))))
 sSkip)
 (sSeq (sIf (eTest (eB dEq (eVar 0) (eC (.int 1))))
 (sRet (eTup (aCons (eC (.str "told")) (aCons (eIf (eTest (eVar 3)) (eKw 0 2 2 pm10 rf_weighed aNil (aCons (eVar 2) (aCons (eVar 1) aNil))) (eCall 2 rf_weighed (aCons (eVar 1) (aCons (eVar 2) aNil)))) aNil))))
 sSkip)
 (sSeq (sIf (eTest (eB dEq (eVar 0) (eC (.int 2))))
 (sRet (eTup (aCons (eC (.str "told")) (aCons (eIf (eTest (eVar 3)) (eKw 0 1 1 pm01 rf_least_of aNil (aCons (eVar 1) aNil)) (eCall 1 rf_least_of (aCons (eVar 1) aNil))) aNil))))
 sSkip)
 (sRet (eTup (aCons (eC (.str "told")) (aCons (eIf (eTest (eVar 3)) (eKw 0 1 1 pm01 rf_greatest_of aNil (aCons (eVar 1) aNil)) (eCall 1 rf_greatest_of (aCons (eVar 1) aNil))) aNil))))))) (sSeq (sIf (eOrT (eTest (eB dNe (eXf "NotUsable" "at" (eVar 4)) (eU dNeg (eC (.int 1))))) (eOrT (eNotT (eTest (eCall 1 rf__law_whole (aCons (eXf "NotUsable" "at" (eVar 4)) aNil)))) (eNotT (eTest (eU (dIsi "str") (eXf "NotUsable" "word" (eVar 4)))))))
 (sRet (eTup (aCons (eC (.str "strange")) (aCons (eC (.str "")) aNil))))
 sSkip)
 (sRet (eTup (aCons (eC (.str "refused")) (aCons (eXf "NotUsable" "word" (eVar 4)) aNil))))))
def rf__law_ask : List D → Sto → Res D := runDef 5 ev__law_ask

abbrev N__law_sum : List Str := ["_law_left", "_law_right", "_law_told", "_law_top", "_law_bottom", "_law_k", "_law_part_top", "_law_part_bottom"]
def ev__law_sum : Es :=
 (sSeq (sAsg 3 (eC (.int 0)))
 (sSeq (sAsg 4 (eC (.int 1)))
 (sSeq (sFor (iRange rng1 (aCons (eL dLen (aCons (eVar 0) aNil)) aNil)) (bName 5)
 (sSeq (sAsg 6 (eB dMul (eB dIx (eB dIx (eVar 0) (eVar 5)) (eC (.int 0))) (eB dIx (eB dIx (eVar 1) (eVar 5)) (eC (.int 0)))))
 (sSeq (sAsg 7 (eB dMul (eB dIx (eB dIx (eVar 0) (eVar 5)) (eC (.int 1))) (eB dIx (eB dIx (eVar 1) (eVar 5)) (eC (.int 1)))))
 (sSeq (sAsg 3 (eB dAdd (eB dMul (eVar 3) (eVar 7)) (eB dMul (eVar 6) (eVar 4))))
 (sAsg 4 (eB dMul (eVar 4) (eVar 7)))))))
 (sRet (eAnd (eB dEq (eB dIx (eVar 2) (eC (.int 0))) (eC (.str "told"))) (eCall 3 rf__law_stands (aCons (eB dIx (eVar 2) (eC (.int 1))) (aCons (eVar 3) (aCons (eVar 4) aNil)))))))))
def rf__law_sum : List D → Sto → Res D := runDef 8 ev__law_sum

abbrev N__law_end : List Str := ["_law_row_held", "_law_told", "_law_sign", "_law_found", "_law_part"]
def ev__law_end : Es :=
 (sSeq (sIf (eOrT (eTest (eB dNe (eB dIx (eVar 1) (eC (.int 0))) (eC (.str "told")))) (eNotT (eTest (eCall 1 rf__law_quotient (aCons (eB dIx (eVar 1) (eC (.int 1))) aNil)))))
 (sRet (eC (.bl false)))
 sSkip)
 (sSeq (sAsg 3 (eC (.bl false)))
 (sSeq (sFor (iSeq (eVar 0)) (bName 4)
 (sSeq (sAsg 3 (eOr (eVar 3) (eB dEq (eVar 4) (eB dIx (eVar 1) (eC (.int 1))))))
 (sIf (eTest (eB dLt (eB dMul (eVar 2) (eB dSub (eB dMul (eB dIx (eVar 4) (eC (.int 0))) (eB dIx (eB dIx (eVar 1) (eC (.int 1))) (eC (.int 1)))) (eB dMul (eB dIx (eB dIx (eVar 1) (eC (.int 1))) (eC (.int 0))) (eB dIx (eVar 4) (eC (.int 1)))))) (eC (.int 0))))
 (sRet (eC (.bl false)))
 sSkip)))
 (sRet (eVar 3)))))
def rf__law_end : List D → Sto → Res D := runDef 5 ev__law_end

abbrev N__law_folded : List Str := ["_law_left", "_law_right", "_law_due_total", "_law_due_weighed", "_law_held", "_law_heavy", "_law_k"]
def ev__law_folded : Es :=
 (sSeq (sAsg 4 (eTup (aCons (eC (.int 0)) (aCons (eC (.int 1)) aNil))))
 (sSeq (sAsg 5 (eTup (aCons (eC (.int 0)) (aCons (eC (.int 1)) aNil))))
 (sSeq (sFor (iRange rng1 (aCons (eL dLen (aCons (eVar 0) aNil)) aNil)) (bName 6)
 (sSeq (sAsg 4 (eCall 2 rf_plus (aCons (eVar 4) (aCons (eB dIx (eVar 0) (eVar 6)) aNil))))
 (sAsg 5 (eKw 0 2 2 pm01 rf_plus aNil (aCons (eCall 2 rf_times (aCons (eB dIx (eVar 0) (eVar 6)) (aCons (eB dIx (eVar 1) (eVar 6)) aNil))) (aCons (eVar 5) aNil))))))
 (sRet (eAnd (eB dEq (eVar 4) (eVar 2)) (eB dEq (eVar 5) (eVar 3)))))))
def rf__law_folded : List D → Sto → Res D := runDef 7 ev__law_folded

abbrev N__law_ordered : List Str := ["_law_row_held", "_law_pool_here", "_law_begin", "_law_left", "_law_right", "_law_told"]
def ev__law_ordered : Es :=
 (sSeq (sAsg 2 (eCall 2 rf__law_take (aCons (eVar 1) (aCons (eL dLen (aCons (eVar 0) aNil)) aNil))))
 (sSeq (sFor (iSeq (eSl (eVar 0) (some (eVar 2)) (some (eB dAdd (eVar 2) (eC (.int 9)))))) (bName 3)
 (sFor (iSeq (eSl (eVar 0) none (some (eC (.int 9))))) (bName 4)
 (sSeq (sAsg 5 (eCall 2 rf_is_less (aCons (eVar 3) (aCons (eVar 4) aNil))))
 (sIf (eOrT (eNotT (eTest (eU (dIsi "bool") (eVar 5)))) (eTest (eB dNe (eVar 5) (eB dLt (eB dMul (eB dIx (eVar 3) (eC (.int 0))) (eB dIx (eVar 4) (eC (.int 1)))) (eB dMul (eB dIx (eVar 4) (eC (.int 0))) (eB dIx (eVar 3) (eC (.int 1))))))))
 (sRet (eC (.bl false)))
 sSkip))))
 (sRet (eC (.bl true)))))
def rf__law_ordered : List D → Sto → Res D := runDef 6 ev__law_ordered

abbrev N__law_refused : List Str := ["_law_pool_here", "_law_left", "_law_right", "_law_named", "_law_bad_here", "_law_spot", "_law_spoilt", "_law_deed", "_law_longer", "_law_inside"]
def ev__law_refused : Es :=
 (sSeq (sAsg 4 (eCall 1 rf__law_bad (aCons (eVar 0) aNil)))
 (sSeq (sAsg 5 (eCall 2 rf__law_take (aCons (eVar 0) (aCons (eB dAdd (eL dLen (aCons (eVar 1) aNil)) (eC (.int 1))) aNil))))
 (sSeq (sAsg 6 (eL dTupOf (aCons (eB dAdd (eB dAdd (eSl (eVar 1) none (some (eVar 5))) (eLst (aCons (eVar 4) aNil))) (eSl (eVar 1) (some (eVar 5)) none)) aNil)))
 (sSeq (sFor (iRange rng1 (aCons (eC (.int 4)) aNil)) (bName 7)
 (sSeq (sIf (eTest (eB dNe (eCall 4 rf__law_ask (aCons (eVar 7) (aCons (eVar 6) (aCons (eL dTupOf (aCons (eVar 2) aNil)) (aCons (eVar 3) aNil))))) (eTup (aCons (eC (.str "refused")) (aCons (eC (.str "row")) aNil)))))
 (sRet (eC (.bl false)))
 sSkip)
 (sIf (eTest (eB dNe (eCall 4 rf__law_ask (aCons (eVar 7) (aCons (eL dListOf (aCons (eVar 1) aNil)) (aCons (eL dListOf (aCons (eVar 2) aNil)) (aCons (eVar 3) aNil))))) (eTup (aCons (eC (.str "refused")) (aCons (eC (.str "row")) aNil)))))
 (sRet (eC (.bl false)))
 sSkip)))
 (sSeq (sAsg 8 (eB dAdd (eL dTupOf (aCons (eVar 2) aNil)) (eTup (aCons (eTup (aCons (eC (.int 1)) (aCons (eC (.int 2)) aNil))) aNil))))
 (sSeq (sIf (eTest (eB dNe (eCall 4 rf__law_ask (aCons (eC (.int 1)) (aCons (eL dTupOf (aCons (eVar 1) aNil)) (aCons (eVar 8) (aCons (eVar 3) aNil))))) (eTup (aCons (eC (.str "refused")) (aCons (eC (.str "others")) aNil)))))
 (sRet (eC (.bl false)))
 sSkip)
 (sSeq (sIf (eTest (eB dNe (eCall 4 rf__law_ask (aCons (eC (.int 1)) (aCons (eVar 8) (aCons (eL dTupOf (aCons (eVar 1) aNil)) (aCons (eNot (eVar 3)) aNil))))) (eTup (aCons (eC (.str "refused")) (aCons (eC (.str "others")) aNil)))))
 (sRet (eC (.bl false)))
 sSkip)
 (sSeq (sIf (eTest (eB dNe (eCall 4 rf__law_ask (aCons (eC (.int 1)) (aCons (eL dTupOf (aCons (eVar 1) aNil)) (aCons (eL dListOf (aCons (eVar 2) aNil)) (aCons (eVar 3) aNil))))) (eTup (aCons (eC (.str "refused")) (aCons (eC (.str "others")) aNil)))))
 (sRet (eC (.bl false)))
 sSkip)
 (sSeq (sAsg 9 (eL dListOf (aCons (eVar 2) aNil)))
 (sSeq (sIf (eTest (eB dGt (eL dLen (aCons (eVar 9) aNil)) (eC (.int 0))))
 (sSeq (sSub gSet (eVar 9) (eCall 2 rf__law_take (aCons (eVar 0) (aCons (eL dLen (aCons (eVar 9) aNil)) aNil))) (eVar 4))
 (sIf (eTest (eB dNe (eCall 4 rf__law_ask (aCons (eC (.int 1)) (aCons (eL dTupOf (aCons (eVar 1) aNil)) (aCons (eL dTupOf (aCons (eVar 9) aNil)) (aCons (eVar 3) aNil))))) (eTup (aCons (eC (.str "refused")) (aCons (eC (.str "others")) aNil)))))
 (sRet (eC (.bl false)))
 sSkip))
 sSkip)
 (sSeq (sFor (iSeq (eLst (aCons (eC (.int 2)) (aCons (eC (.int 3)) aNil)))) (bName 7)
 (sIf (eTest (eB dNe (eCall 4 rf__law_ask (aCons (eVar 7) (aCons (eTup aNil) (aCons (eTup aNil) (aCons (eVar 3) aNil))))) (eTup (aCons (eC (.str "refused")) (aCons (eC (.str "row")) aNil)))))
 (sRet (eC (.bl false)))
 sSkip))
 (sRet (eC (.bl true))))))))))))))
def rf__law_refused : List D → Sto → Res D := runDef 10 ev__law_refused

abbrev N_law : List Str := ["_law_script", "_law_pool_here", "_law_named", "_law_drawn", "_law_left", "_law_right", "_law_ones", "_law_told", "_law_heavy", "_law_whole_here"]
def ev_law : Es :=
 (sSeq (sAsg 1 (eCall 1 rf__law_pool (aCons (eVar 0) aNil)))
 (sSeq (sAsg 2 (eB dEq (eCall 2 rf__law_take (aCons (eVar 1) (aCons (eC (.int 2)) aNil))) (eC (.int 1))))
 (sSeq (sAsg 3 (eCall 1 rf__law_rows (aCons (eVar 1) aNil)))
 (sSeq (sAsg 4 (eB dIx (eVar 3) (eC (.int 0))))
 (sSeq (sAsg 5 (eB dIx (eVar 3) (eC (.int 1))))
 (sSeq (sAsg 6 (eB dMul (eLst (aCons (eTup (aCons (eC (.int 1)) (aCons (eC (.int 1)) aNil))) aNil)) (eL dLen (aCons (eVar 4) aNil))))
 (sSeq (sAsg 7 (eCall 4 rf__law_ask (aCons (eC (.int 0)) (aCons (eL dTupOf (aCons (eVar 4) aNil)) (aCons (eTup aNil) (aCons (eVar 2) aNil))))))
 (sSeq (sAsg 8 (eCall 4 rf__law_ask (aCons (eC (.int 1)) (aCons (eL dTupOf (aCons (eVar 4) aNil)) (aCons (eL dTupOf (aCons (eVar 5) aNil)) (aCons (eNot (eVar 2)) aNil))))))
 (sSeq (sIf (eOrT (eNotT (eTest (eCall 3 rf__law_sum (aCons (eVar 4) (aCons (eVar 6) (aCons (eVar 7) aNil)))))) (eNotT (eTest (eCall 3 rf__law_sum (aCons (eVar 4) (aCons (eVar 5) (aCons (eVar 8) aNil)))))))
 (sRet (eC (.bl false)))
 sSkip)
 (sSeq (sIf (eNotT (eTest (eCall 3 rf__law_sum (aCons (eVar 5) (aCons (eVar 6) (aCons (eCall 4 rf__law_ask (aCons (eC (.int 0)) (aCons (eL dTupOf (aCons (eVar 5) aNil)) (aCons (eTup aNil) (aCons (eNot (eVar 2)) aNil))))) aNil))))))
 (sRet (eC (.bl false)))
 sSkip)
 (sSeq (sIf (eNotT (eTest (eCall 3 rf__law_sum (aCons (eVar 4) (aCons (eVar 4) (aCons (eCall 4 rf__law_ask (aCons (eC (.int 1)) (aCons (eL dTupOf (aCons (eVar 4) aNil)) (aCons (eL dTupOf (aCons (eVar 4) aNil)) (aCons (eVar 2) aNil))))) aNil))))))
 (sRet (eC (.bl false)))
 sSkip)
 (sSeq (sIf (eTest (eB dNe (eCall 4 rf__law_ask (aCons (eC (.int 1)) (aCons (eL dTupOf (aCons (eU dRev (eVar 5)) aNil)) (aCons (eL dTupOf (aCons (eU dRev (eVar 4)) aNil)) (aCons (eVar 2) aNil))))) (eVar 8)))
 (sRet (eC (.bl false)))
 sSkip)
 (sSeq (sIf (eAndT (eTest (eB dEq (eB dIx (eVar 3) (eC (.int 2))) (eC (.int 0)))) (eNotT (eTest (eCall 4 rf__law_folded (aCons (eVar 4) (aCons (eVar 5) (aCons (eB dIx (eVar 7) (eC (.int 1))) (aCons (eB dIx (eVar 8) (eC (.int 1))) aNil))))))))
 (sRet (eC (.bl false)))
 sSkip)
 (sSeq (sIf (eNotT (eTest (eCall 4 rf__law_refused (aCons (eVar 1) (aCons (eVar 4) (aCons (eVar 5) (aCons (eVar 2) aNil)))))))
 (sRet (eC (.bl false)))
 sSkip)
 (sSeq (sAsg 9 (eB dAdd (eVar 4) (eVar 5)))
 (sSeq (sIf (eTest (eB dEq (eL dLen (aCons (eVar 9) aNil)) (eC (.int 0))))
 (sRet (eC (.bl true)))
 sSkip)
 (sSeq (sIf (eNotT (eTest (eCall 3 rf__law_end (aCons (eVar 9) (aCons (eCall 4 rf__law_ask (aCons (eC (.int 2)) (aCons (eL dTupOf (aCons (eVar 9) aNil)) (aCons (eTup aNil) (aCons (eVar 2) aNil))))) (aCons (eC (.int 1)) aNil))))))
 (sRet (eC (.bl false)))
 sSkip)
 (sSeq (sIf (eNotT (eTest (eCall 3 rf__law_end (aCons (eVar 9) (aCons (eCall 4 rf__law_ask (aCons (eC (.int 3)) (aCons (eL dTupOf (aCons (eVar 9) aNil)) (aCons (eTup aNil) (aCons (eNot (eVar 2)) aNil))))) (aCons (eU dNeg (eC (.int 1))) aNil))))))
 (sRet (eC (.bl false)))
 sSkip)
 (sSeq (sIf (eNotT (eTest (eCall 3 rf__law_end (aCons (eVar 5) (aCons (eCall 4 rf__law_ask (aCons (eC (.int 2)) (aCons (eL dTupOf (aCons (eVar 5) aNil)) (aCons (eTup aNil) (aCons (eNot (eVar 2)) aNil))))) (aCons (eC (.int 1)) aNil))))))
 (sRet (eC (.bl false)))
 sSkip)
 (sRet (eAnd (eCall 3 rf__law_end (aCons (eVar 4) (aCons (eCall 4 rf__law_ask (aCons (eC (.int 3)) (aCons (eL dTupOf (aCons (eVar 4) aNil)) (aCons (eTup aNil) (aCons (eVar 2) aNil))))) (aCons (eU dNeg (eC (.int 1))) aNil)))) (eCall 2 rf__law_ordered (aCons (eVar 9) (aCons (eVar 1) aNil))))))))))))))))))))))))
def rf_law : List D → Sto → Res D := runDef 10 ev_law

end
end LawM
end
section
set_option Elab.async false
set_option linter.all false
set_option maxRecDepth 100000
set_option maxHeartbeats 400000
/-! PP: the evaluators reckoned with: rewriting rules for the pure laws. -/
namespace MP
open PySem PySem.Spec PyProof.Rows L2
@[simp] theorem dAdd_int {i j : Int} {S : Sto} : dAdd (.int i) (.int j) S = some (.int (i + j), S) := rfl
theorem dMul_int {i j : Int} {S : Sto} (h : CMulA i j) : dMul (.int i) (.int j) S = some (.int (i * j), S) := by
  unfold dMul
  simp [h]
theorem dTup_ok {ds : List D} {S : Sto} (h : ds.length ≤ 1000 := by decide) : dTup ds S = some (.tup ds, S) := by
  unfold dTup
  simp [h]
theorem dLst_ok {ds : List D} {S : Sto} (h : ds.length ≤ 1000) : dLst ds S = some (.lst S.length, S ++ [ds]) := by
  unfold dLst
  simp [h]
theorem toPy_int {S : Sto} {n : Nat} {i : Int} : toPy S (n + 1) (.int i) = some (.int i) := rfl
theorem deep_eq : deep = 38 + 1 + 1 := rfl
@[simp] theorem dEq_int {i j : Int} {S : Sto} : dEq (.int i) (.int j) S = some (.bl (decide (i = j)), S) := by
  have e : dEq (.int i) (.int j) S = some (.bl (PyData.eqv (.int i) (.int j)), S) := rfl
  rw [e]
  simp [PyData.eqv]
  by_cases h : i = j <;> simp [h]
@[simp] theorem dNe_int {i j : Int} {S : Sto} : dNe (.int i) (.int j) S = some (.bl (!decide (i = j)), S) := by
  have e : dNe (.int i) (.int j) S = some (.bl (!PyData.eqv (.int i) (.int j)), S) := rfl
  rw [e]
  simp [PyData.eqv]
  by_cases h : i = j <;> simp [h]
theorem dNe_bl {i j : Bool} {S : Sto} : dNe (.bl i) (.bl j) S = some (.bl (!(i == j)), S) := by
  have e : dNe (.bl i) (.bl j) S = some (.bl (!PyData.eqv (.bool i) (.bool j)), S) := rfl
  rw [e]
  simp [PyData.eqv]
def dq (q : Int × Int) : D := .tup [.int q.1, .int q.2]
@[simp] theorem dEq_dq {q r : Int × Int} {S : Sto} : dEq (dq q) (dq r) S = some (.bl (decide (q = r)), S) := by
  have e : dEq (dq q) (dq r) S = some (.bl (PyData.eqv (.tuple [.int q.1, .int q.2]) (.tuple [.int r.1, .int r.2])), S) := rfl
  rw [e]
  obtain ⟨a, b⟩ := q
  obtain ⟨c, d⟩ := r
  by_cases h1 : a = c <;> by_cases h2 : b = d <;> simp [PyData.eqv, PyData.eqvAll, h1, h2]
/-- a text that is laid out -/
def okS (x : Str) : Bool := PyData.strOk x
theorem dEq_str {x y : Str} {S : Sto} (hx : okS x = true) (hy : okS y = true) : dEq (.str x) (.str y) S = some (.bl (x == y), S) := by
  unfold okS at hx hy
  have hx' : toPy S deep (.str x) = some (.str x) := by
    show (if PyData.strOk x = true then some (PyData.str x) else none) = _
    rw [if_pos hx]
  have hy' : toPy S deep (.str y) = some (.str y) := by
    show (if PyData.strOk y = true then some (PyData.str y) else none) = _
    rw [if_pos hy]
  unfold dEq
  rw [hx', hy']
  simp [PyData.eqv]
theorem dNe_str {x y : Str} {S : Sto} (hx : okS x = true) (hy : okS y = true) : dNe (.str x) (.str y) S = some (.bl (!(x == y)), S) := by
  unfold okS at hx hy
  have hx' : toPy S deep (.str x) = some (.str x) := by
    show (if PyData.strOk x = true then some (PyData.str x) else none) = _
    rw [if_pos hx]
  have hy' : toPy S deep (.str y) = some (.str y) := by
    show (if PyData.strOk y = true then some (PyData.str y) else none) = _
    rw [if_pos hy]
  unfold dNe
  rw [hx', hy']
  simp [PyData.eqv]
theorem dNe_of {d e : D} {p q : PyData} {S : Sto} (h1 : toPy S deep d = some p) (h2 : toPy S deep e = some q) : dNe d e S = some (.bl (!PyData.eqv p q), S) := by
  unfold dNe
  rw [h1, h2]
theorem toPy_q {S : Sto} {q : Int × Int} : toPy S 39 (dq q) = some (.tuple [.int q.1, .int q.2]) := rfl
/-! isinstance -/
section
variable {S : Sto} {i : Int} {b : Bool} {x : Str} {xs : List D} {l : Nat}
theorem k_ii : kitB "int" "int" = some true := by decide +kernel
theorem k_ib : kitB "int" "bool" = some false := by decide +kernel
theorem k_it : kitB "int" "tuple" = some false := by decide +kernel
theorem k_is : kitB "int" "str" = some false := by decide +kernel
theorem k_bi : kitB "bool" "int" = some true := by decide +kernel
theorem k_bb : kitB "bool" "bool" = some true := by decide +kernel
theorem k_bt : kitB "bool" "tuple" = some false := by decide +kernel
theorem k_si : kitB "str" "int" = some false := by decide +kernel
theorem k_sb : kitB "str" "bool" = some false := by decide +kernel
theorem k_st : kitB "str" "tuple" = some false := by decide +kernel
theorem k_ss : kitB "str" "str" = some true := by decide +kernel
theorem k_tt : kitB "tuple" "tuple" = some true := by decide +kernel
theorem k_ti : kitB "tuple" "int" = some false := by decide +kernel
theorem k_lt : kitB "list" "tuple" = some false := by decide +kernel
theorem k_nt : kitB "NoneType" "tuple" = some false := by decide +kernel
theorem k_ni : kitB "NoneType" "int" = some false := by decide +kernel
@[simp] theorem isi_ii : dIsi "int" (.int i) S = some (.bl true, S) := by simp [dIsi, tyName, k_ii]
@[simp] theorem isi_ib : dIsi "bool" (.int i) S = some (.bl false, S) := by simp [dIsi, tyName, k_ib]
@[simp] theorem isi_it : dIsi "tuple" (.int i) S = some (.bl false, S) := by simp [dIsi, tyName, k_it]
@[simp] theorem isi_is : dIsi "str" (.int i) S = some (.bl false, S) := by simp [dIsi, tyName, k_is]
@[simp] theorem isi_bi : dIsi "int" (.bl b) S = some (.bl true, S) := by simp [dIsi, tyName, k_bi]
@[simp] theorem isi_bb : dIsi "bool" (.bl b) S = some (.bl true, S) := by simp [dIsi, tyName, k_bb]
@[simp] theorem isi_bt : dIsi "tuple" (.bl b) S = some (.bl false, S) := by simp [dIsi, tyName, k_bt]
@[simp] theorem isi_si : dIsi "int" (.str x) S = some (.bl false, S) := by simp [dIsi, tyName, k_si]
@[simp] theorem isi_sb : dIsi "bool" (.str x) S = some (.bl false, S) := by simp [dIsi, tyName, k_sb]
@[simp] theorem isi_st : dIsi "tuple" (.str x) S = some (.bl false, S) := by simp [dIsi, tyName, k_st]
@[simp] theorem isi_ss : dIsi "str" (.str x) S = some (.bl true, S) := by simp [dIsi, tyName, k_ss]
@[simp] theorem isi_tt : dIsi "tuple" (.tup xs) S = some (.bl true, S) := by simp [dIsi, tyName, k_tt]
@[simp] theorem isi_ti : dIsi "int" (.tup xs) S = some (.bl false, S) := by simp [dIsi, tyName, k_ti]
@[simp] theorem isi_lt : dIsi "tuple" (.lst l) S = some (.bl false, S) := by simp [dIsi, tyName, k_lt]
@[simp] theorem isi_nt : dIsi "tuple" .non S = some (.bl false, S) := by simp [dIsi, tyName, k_nt]
@[simp] theorem isi_ni : dIsi "int" .non S = some (.bl false, S) := by simp [dIsi, tyName, k_ni]
@[simp] theorem len_tup : dLen [.tup xs] S = some (.int xs.length, S) := rfl
theorem len_lst (h : S[l]? = some xs) : dLen [.lst l] S = some (.int xs.length, S) := by
  unfold dLen itemsOf
  simp [h]
theorem tup_lst (h : S[l]? = some xs) : dTupOf [.lst l] S = some (.tup xs, S) := by
  unfold dTupOf itemsOf
  simp [h]
theorem list_lst (h : S[l]? = some xs) : dListOf [.lst l] S = some (.lst S.length, S ++ [xs]) := by
  unfold dListOf itemsOf
  simp [h]
@[simp] theorem list_frl : dListOf [.frl xs] S = some (.lst S.length, S ++ [xs]) := rfl
theorem ixN_nat {n k : Nat} (h : k < n) : ixN n (k : Int) = some k := by
  unfold ixN
  rw [if_pos (by omega), if_pos (by omega)]
  simp
theorem atI_nat {α : Type} {xs : List α} {k : Nat} {v : α} (h : xs[k]? = some v) : atI xs (k : Int) = some v := by
  unfold atI
  rw [ixN_nat (List.getElem?_eq_some_iff.mp h).1]
  exact h
theorem ix_tup {k : Nat} {v : D} (h : xs[k]? = some v) : dIx (.tup xs) (.int k) S = some (v, S) := by
  unfold dIx
  simp [atI_nat h]
theorem ix_lst {k : Nat} {v : D} (hl : S[l]? = some xs) (h : xs[k]? = some v) : dIx (.lst l) (.int k) S = some (v, S) := by
  unfold dIx
  simp [hl, atI_nat h]
@[simp] theorem ix_tup0 {v : D} {r : List D} : dIx (.tup (v :: r)) (.int 0) S = some (v, S) := ix_tup (k := 0) rfl
@[simp] theorem ix_tup1 {u v : D} {r : List D} : dIx (.tup (u :: v :: r)) (.int 1) S = some (v, S) := ix_tup (k := 1) rfl
@[simp] theorem ix_dq0 {q : Int × Int} : dIx (dq q) (.int 0) S = some (.int q.1, S) := ix_tup (k := 0) rfl
@[simp] theorem ix_dq1 {q : Int × Int} : dIx (dq q) (.int 1) S = some (.int q.2, S) := ix_tup (k := 1) rfl
@[simp] theorem isi_dq {q : Int × Int} : dIsi "tuple" (dq q) S = some (.bl true, S) := isi_tt
theorem set_lst {k : Nat} {v : D} (hl : S[l]? = some xs) (h : k < xs.length) : gSet (.lst l) (.int k) v S = some (S.set l (xs.set k v)) := by
  unfold gSet
  simp [hl, ixN_nat h]
end
/-! loops -/
theorem seq_next {a b : Es} {ρ ρ' : Env} {S S' : Sto} (h : a ρ S = .next ρ' S') : sSeq a b ρ S = b ρ' S' := by
  unfold sSeq
  rw [h]
  rfl
theorem seq_ret {a b : Es} {ρ : Env} {S S' : Sto} {d : D} (h : a ρ S = .ret d S') : sSeq a b ρ S = .ret d S' := by
  unfold sSeq
  rw [h]
  rfl
theorem seq_exc {a b : Es} {ρ ρ' : Env} {S S' : Sto} {n : Str} {ns : List Str} {ds : List D} (h : a ρ S = .exc n ns ds ρ' S') : sSeq a b ρ S = .exc n ns ds ρ' S' := by
  unfold sSeq
  rw [h]
  rfl
section
variable {st : Sto → Prop} {b : D → Env → Option Env} {body : Es}
theorem for_nil {ρ : Env} {S : Sto} (h : st S) : forLoop st b body [] ρ S = .next ρ S := by
  unfold forLoop
  simp [h]
theorem for_cons {x : D} {xs : List D} {ρ ρ1 ρ2 : Env} {S S2 : Sto} (h : st S) (hb : b x ρ = some ρ1) (hy : body ρ1 S = .next ρ2 S2) : forLoop st b body (x :: xs) ρ S = forLoop st b body xs ρ2 S2 := by
  rw [forLoop]
  simp [h, hb, hy]
theorem for_ret {x : D} {xs : List D} {ρ ρ1 : Env} {S S2 : Sto} {d : D} (h : st S) (hb : b x ρ = some ρ1) (hy : body ρ1 S = .ret d S2) : forLoop st b body (x :: xs) ρ S = .ret d S2 := by
  rw [forLoop]
  simp [h, hb, hy]
/-- a loop by an invariant over the items that are left -/
theorem for_inv (I : List D → Env → Sto → Prop) (hst : ∀ xs ρ S, I xs ρ S → st S)
    (step : ∀ x xs ρ S, I (x :: xs) ρ S → ∃ ρ1 ρ2 S2, b x ρ = some ρ1 ∧ body ρ1 S = .next ρ2 S2 ∧ I xs ρ2 S2) : ∀ xs ρ S, I xs ρ S → ∃ ρ' S', forLoop st b body xs ρ S = .next ρ' S' ∧ I [] ρ' S'
  | [], ρ, S, h => ⟨ρ, S, for_nil (hst _ _ _ h), h⟩
  | x :: xs, ρ, S, h => by
    obtain ⟨ρ1, ρ2, S2, h1, h2, h3⟩ := step x xs ρ S h
    obtain ⟨ρ', S', h4, h5⟩ := for_inv I hst step xs ρ2 S2 h3
    exact ⟨ρ', S', by rw [for_cons (hst _ _ _ h) h1 h2]; exact h4, h5⟩
theorem while_done {t : EvB} {n : Nat} {ρ : Env} {S S1 : Sto} (h : t ρ S = .ok false S1) : whileLoop t body (n + 1) ρ S = .next ρ S1 := by
  unfold whileLoop
  simp [h]
theorem while_step {t : EvB} {n : Nat} {ρ ρ2 : Env} {S S1 S2 : Sto} (h : t ρ S = .ok true S1) (hb : body ρ S1 = .next ρ2 S2) : whileLoop t body (n + 1) ρ S = whileLoop t body n ρ2 S2 := by
  rw [whileLoop]
  simp [h, hb]
variable {t : EvB} {e : Ev} {ρ : Env}
theorem lc_nil {acc : List D} {S : Sto} (h : st S) : lcLoop st b t e ρ [] acc S = .ok acc S := by
  unfold lcLoop
  simp [h]
theorem lc_cons {x : D} {xs acc : List D} {ρ1 : Env} {S S1 S2 : Sto} {d : D} (h : st S) (hb : b x ρ = some ρ1) (ht : t ρ1 S = .ok true S1) (he : e ρ1 S1 = .ok d S2) (hl : acc.length < 1000000) :
    lcLoop st b t e ρ (x :: xs) acc S = lcLoop st b t e ρ xs (acc ++ [d]) S2 := by
  rw [lcLoop]
  simp [h, hb, ht, he, hl]
/-- a comprehension that leaves the store -/
theorem lc_map (f : D → D) {S : Sto} (hst : st S) : ∀ (xs acc : List D), acc.length + xs.length ≤ 1000000 → (∀ x ∈ xs, ∃ ρ1, b x ρ = some ρ1 ∧ t ρ1 S = .ok true S ∧ e ρ1 S = .ok (f x) S) → lcLoop st b t e ρ xs acc S = .ok (acc ++ xs.map f) S
  | [], acc, _, _ => by rw [lc_nil hst]; simp
  | x :: xs, acc, hl, h => by
    obtain ⟨ρ1, h1, h2, h3⟩ := h x (by simp)
    simp only [List.length_cons] at hl
    rw [lc_cons hst h1 h2 h3 (by omega), lc_map f hst xs (acc ++ [f x]) (by simp; omega) fun y hy => h y (by simp [hy])]
    simp
end
theorem fuel_big {n : Nat} (h : n < 2 ^ 4000000) : n < fuel := by
  unfold fuel
  exact h
@[simp] theorem tTrue_ok {ρ : Env} {S : Sto} : tTrue ρ S = .ok true S := rfl
end MP
end
section
set_option Elab.async false
set_option linter.all false
set_option maxRecDepth 100000
set_option maxHeartbeats 1000000
/-! P1: the small functions. -/
namespace LawM
open PySem PySem.Spec PyProof.Rows L2 MP
def Qu (q : Int × Int) : Prop := 1 ≤ q.2 ∧ Nat.gcd q.1.natAbs q.2.natAbs = 1
theorem int_int {i : Int} {S : Sto} : rf_is_integer [.int i] S = .ok (.bl true) S := by
  simp [rf_is_integer, ev_is_integer, eVar, eC, eB, eU, eL, boolOf, eTest, eNotT, eAndT, eOrT, eNot, eAnd, eOr, eIf, aNil, aCons, eTup, eLst, eChain, sSkip, sSeq, sAsg, sPar, sExpr, sRet, sRetN, sIf, sBrk, sCont, sSub, eCall, eKw, runDef, begins, dI0, dI, dSub, dLt, dLe, dGt, dGe, dNeg, dInt, dAbs, dGcd, dDiv, dMod, sBind, bTup, bCons, bNil, bName, eMt, iSeq, iRange, ofRes, flowRes, srcOf]
theorem int_bl {i : Bool} {S : Sto} : rf_is_integer [.bl i] S = .ok (.bl false) S := by
  simp [rf_is_integer, ev_is_integer, eVar, eC, eB, eU, eL, boolOf, eTest, eNotT, eAndT, eOrT, eNot, eAnd, eOr, eIf, aNil, aCons, eTup, eLst, eChain, sSkip, sSeq, sAsg, sPar, sExpr, sRet, sRetN, sIf, sBrk, sCont, sSub, eCall, eKw, runDef, begins, dI0, dI, dSub, dLt, dLe, dGt, dGe, dNeg, dInt, dAbs, dGcd, dDiv, dMod, sBind, bTup, bCons, bNil, bName, eMt, iSeq, iRange, ofRes, flowRes, srcOf]
theorem int_str {i : Str} {S : Sto} : rf_is_integer [.str i] S = .ok (.bl false) S := by
  simp [rf_is_integer, ev_is_integer, eVar, eC, eB, eU, eL, boolOf, eTest, eNotT, eAndT, eOrT, eNot, eAnd, eOr, eIf, aNil, aCons, eTup, eLst, eChain, sSkip, sSeq, sAsg, sPar, sExpr, sRet, sRetN, sIf, sBrk, sCont, sSub, eCall, eKw, runDef, begins, dI0, dI, dSub, dLt, dLe, dGt, dGe, dNeg, dInt, dAbs, dGcd, dDiv, dMod, sBind, bTup, bCons, bNil, bName, eMt, iSeq, iRange, ofRes, flowRes, srcOf]
theorem lw_int {i : Int} {S : Sto} : rf__law_whole [.int i] S = .ok (.bl true) S := by
  simp [rf__law_whole, ev__law_whole, eVar, eC, eB, eU, eL, boolOf, eTest, eNotT, eAndT, eOrT, eNot, eAnd, eOr, eIf, aNil, aCons, eTup, eLst, eChain, sSkip, sSeq, sAsg, sPar, sExpr, sRet, sRetN, sIf, sBrk, sCont, sSub, eCall, eKw, runDef, begins, dI0, dI, dSub, dLt, dLe, dGt, dGe, dNeg, dInt, dAbs, dGcd, dDiv, dMod, sBind, bTup, bCons, bNil, bName, eMt, iSeq, iRange, ofRes, flowRes, srcOf]
theorem isq_dq {q : Int × Int} (h : Qu q) {S : Sto} : rf_is_quotient [dq q] S = .ok (.bl true) S := by
  obtain ⟨a, b⟩ := q
  obtain ⟨h1, h2⟩ := h
  simp at h1 h2
  simp [rf_is_quotient, ev_is_quotient, eVar, eC, eB, eU, eL, boolOf, eTest, eNotT, eAndT, eOrT, eNot, eAnd, eOr, eIf, aNil, aCons, eTup, eLst, eChain, sSkip, sSeq, sAsg, sPar, sExpr, sRet, sRetN, sIf, sBrk, sCont, sSub, eCall, eKw, runDef, begins, dI0, dI, dSub, dLt, dLe, dGt, dGe, dNeg, dInt, dAbs, dGcd, dDiv, dMod, sBind, bTup, bCons, bNil, bName, eMt, iSeq, iRange, ofRes, flowRes, srcOf, dq, int_int, h1, h2]
/-- what is no quotient -/
inductive Bad : D → Prop where
  | two {a b : Int} (h : (decide (b ≥ 1) && decide (Nat.gcd a.natAbs b.natAbs = 1)) = false) : Bad (.tup [.int a, .int b])
  | b1 {k : Bool} {a : Int} : Bad (.tup [.bl k, .int a])
  | b2 {k : Bool} {a : Int} : Bad (.tup [.int a, .bl k])
  | s1 {k : Str} {a : Int} : Bad (.tup [.str k, .int a])
  | l0 : Bad (.tup [])
  | l1 {a : D} : Bad (.tup [a])
  | l3 {a b c : D} : Bad (.tup [a, b, c])
  | int {a : Int} : Bad (.int a)
  | str {a : Str} : Bad (.str a)
  | lst {l : Nat} : Bad (.lst l)
  | non : Bad .non
theorem isq_bad {d : D} (h : Bad d) {S : Sto} : rf_is_quotient [d] S = .ok (.bl false) S := by
  cases h with
  | two h =>
    rename_i a b
    by_cases hb : 1 ≤ b
    · by_cases hg : Nat.gcd a.natAbs b.natAbs = 1
      · simp [hb, hg] at h
      · simp [rf_is_quotient, ev_is_quotient, eVar, eC, eB, eU, eL, boolOf, eTest, eNotT, eAndT, eOrT, eNot, eAnd, eOr, eIf, aNil, aCons, eTup, eLst, eChain, sSkip, sSeq, sAsg, sPar, sExpr, sRet, sRetN, sIf, sBrk, sCont, sSub, eCall, eKw, runDef, begins, dI0, dI, dSub, dLt, dLe, dGt, dGe, dNeg, dInt, dAbs, dGcd, dDiv, dMod, sBind, bTup, bCons, bNil, bName, eMt, iSeq, iRange, ofRes, flowRes, srcOf, int_int, hb, hg]
        omega
    · simp [rf_is_quotient, ev_is_quotient, eVar, eC, eB, eU, eL, boolOf, eTest, eNotT, eAndT, eOrT, eNot, eAnd, eOr, eIf, aNil, aCons, eTup, eLst, eChain, sSkip, sSeq, sAsg, sPar, sExpr, sRet, sRetN, sIf, sBrk, sCont, sSub, eCall, eKw, runDef, begins, dI0, dI, dSub, dLt, dLe, dGt, dGe, dNeg, dInt, dAbs, dGcd, dDiv, dMod, sBind, bTup, bCons, bNil, bName, eMt, iSeq, iRange, ofRes, flowRes, srcOf, int_int, hb]
  | b1 => simp [rf_is_quotient, ev_is_quotient, eVar, eC, eB, eU, eL, boolOf, eTest, eNotT, eAndT, eOrT, eNot, eAnd, eOr, eIf, aNil, aCons, eTup, eLst, eChain, sSkip, sSeq, sAsg, sPar, sExpr, sRet, sRetN, sIf, sBrk, sCont, sSub, eCall, eKw, runDef, begins, dI0, dI, dSub, dLt, dLe, dGt, dGe, dNeg, dInt, dAbs, dGcd, dDiv, dMod, sBind, bTup, bCons, bNil, bName, eMt, iSeq, iRange, ofRes, flowRes, srcOf, int_int, int_bl]
  | b2 => simp [rf_is_quotient, ev_is_quotient, eVar, eC, eB, eU, eL, boolOf, eTest, eNotT, eAndT, eOrT, eNot, eAnd, eOr, eIf, aNil, aCons, eTup, eLst, eChain, sSkip, sSeq, sAsg, sPar, sExpr, sRet, sRetN, sIf, sBrk, sCont, sSub, eCall, eKw, runDef, begins, dI0, dI, dSub, dLt, dLe, dGt, dGe, dNeg, dInt, dAbs, dGcd, dDiv, dMod, sBind, bTup, bCons, bNil, bName, eMt, iSeq, iRange, ofRes, flowRes, srcOf, int_int, int_bl]
  | s1 => simp [rf_is_quotient, ev_is_quotient, eVar, eC, eB, eU, eL, boolOf, eTest, eNotT, eAndT, eOrT, eNot, eAnd, eOr, eIf, aNil, aCons, eTup, eLst, eChain, sSkip, sSeq, sAsg, sPar, sExpr, sRet, sRetN, sIf, sBrk, sCont, sSub, eCall, eKw, runDef, begins, dI0, dI, dSub, dLt, dLe, dGt, dGe, dNeg, dInt, dAbs, dGcd, dDiv, dMod, sBind, bTup, bCons, bNil, bName, eMt, iSeq, iRange, ofRes, flowRes, srcOf, int_int, int_str]
  | l0 => simp [rf_is_quotient, ev_is_quotient, eVar, eC, eB, eU, eL, boolOf, eTest, eNotT, eAndT, eOrT, eNot, eAnd, eOr, eIf, aNil, aCons, eTup, eLst, eChain, sSkip, sSeq, sAsg, sPar, sExpr, sRet, sRetN, sIf, sBrk, sCont, sSub, eCall, eKw, runDef, begins, dI0, dI, dSub, dLt, dLe, dGt, dGe, dNeg, dInt, dAbs, dGcd, dDiv, dMod, sBind, bTup, bCons, bNil, bName, eMt, iSeq, iRange, ofRes, flowRes, srcOf]
  | l1 => simp [rf_is_quotient, ev_is_quotient, eVar, eC, eB, eU, eL, boolOf, eTest, eNotT, eAndT, eOrT, eNot, eAnd, eOr, eIf, aNil, aCons, eTup, eLst, eChain, sSkip, sSeq, sAsg, sPar, sExpr, sRet, sRetN, sIf, sBrk, sCont, sSub, eCall, eKw, runDef, begins, dI0, dI, dSub, dLt, dLe, dGt, dGe, dNeg, dInt, dAbs, dGcd, dDiv, dMod, sBind, bTup, bCons, bNil, bName, eMt, iSeq, iRange, ofRes, flowRes, srcOf]
  | l3 => simp [rf_is_quotient, ev_is_quotient, eVar, eC, eB, eU, eL, boolOf, eTest, eNotT, eAndT, eOrT, eNot, eAnd, eOr, eIf, aNil, aCons, eTup, eLst, eChain, sSkip, sSeq, sAsg, sPar, sExpr, sRet, sRetN, sIf, sBrk, sCont, sSub, eCall, eKw, runDef, begins, dI0, dI, dSub, dLt, dLe, dGt, dGe, dNeg, dInt, dAbs, dGcd, dDiv, dMod, sBind, bTup, bCons, bNil, bName, eMt, iSeq, iRange, ofRes, flowRes, srcOf]
  | int => simp [rf_is_quotient, ev_is_quotient, eVar, eC, eB, eU, eL, boolOf, eTest, eNotT, eAndT, eOrT, eNot, eAnd, eOr, eIf, aNil, aCons, eTup, eLst, eChain, sSkip, sSeq, sAsg, sPar, sExpr, sRet, sRetN, sIf, sBrk, sCont, sSub, eCall, eKw, runDef, begins, dI0, dI, dSub, dLt, dLe, dGt, dGe, dNeg, dInt, dAbs, dGcd, dDiv, dMod, sBind, bTup, bCons, bNil, bName, eMt, iSeq, iRange, ofRes, flowRes, srcOf]
  | str => simp [rf_is_quotient, ev_is_quotient, eVar, eC, eB, eU, eL, boolOf, eTest, eNotT, eAndT, eOrT, eNot, eAnd, eOr, eIf, aNil, aCons, eTup, eLst, eChain, sSkip, sSeq, sAsg, sPar, sExpr, sRet, sRetN, sIf, sBrk, sCont, sSub, eCall, eKw, runDef, begins, dI0, dI, dSub, dLt, dLe, dGt, dGe, dNeg, dInt, dAbs, dGcd, dDiv, dMod, sBind, bTup, bCons, bNil, bName, eMt, iSeq, iRange, ofRes, flowRes, srcOf]
  | lst => simp [rf_is_quotient, ev_is_quotient, eVar, eC, eB, eU, eL, boolOf, eTest, eNotT, eAndT, eOrT, eNot, eAnd, eOr, eIf, aNil, aCons, eTup, eLst, eChain, sSkip, sSeq, sAsg, sPar, sExpr, sRet, sRetN, sIf, sBrk, sCont, sSub, eCall, eKw, runDef, begins, dI0, dI, dSub, dLt, dLe, dGt, dGe, dNeg, dInt, dAbs, dGcd, dDiv, dMod, sBind, bTup, bCons, bNil, bName, eMt, iSeq, iRange, ofRes, flowRes, srcOf]
  | non => simp [rf_is_quotient, ev_is_quotient, eVar, eC, eB, eU, eL, boolOf, eTest, eNotT, eAndT, eOrT, eNot, eAnd, eOr, eIf, aNil, aCons, eTup, eLst, eChain, sSkip, sSeq, sAsg, sPar, sExpr, sRet, sRetN, sIf, sBrk, sCont, sSub, eCall, eKw, runDef, begins, dI0, dI, dSub, dLt, dLe, dGt, dGe, dNeg, dInt, dAbs, dGcd, dDiv, dMod, sBind, bTup, bCons, bNil, bName, eMt, iSeq, iRange, ofRes, flowRes, srcOf]
/-! lowest terms -/
def low (a b : Int) : Int × Int := (a.fdiv (Nat.gcd a.natAbs b.natAbs : Int), b.fdiv (Nat.gcd a.natAbs b.natAbs : Int))
theorem low_spec {a b : Int} (hb : 0 < b) : ∃ g : Int, 0 < g ∧ g ≤ b ∧ g = (Nat.gcd a.natAbs b.natAbs : Int) ∧ a = g * (low a b).1 ∧ b = g * (low a b).2 ∧ Qu (low a b) := by
  have hg : 0 < Nat.gcd a.natAbs b.natAbs := Nat.gcd_pos_of_pos_right _ (by omega)
  have da : ((Nat.gcd a.natAbs b.natAbs : Nat) : Int) ∣ a := Int.ofNat_dvd_left.mpr (Nat.gcd_dvd_left _ _)
  have db : ((Nat.gcd a.natAbs b.natAbs : Nat) : Int) ∣ b := Int.ofNat_dvd_left.mpr (Nat.gcd_dvd_right _ _)
  have gb : Nat.gcd a.natAbs b.natAbs ≤ b.natAbs := Nat.le_of_dvd (by omega) (Nat.gcd_dvd_right _ _)
  have e1 : a = (Nat.gcd a.natAbs b.natAbs : Int) * (low a b).1 := by
    show a = (Nat.gcd a.natAbs b.natAbs : Int) * a.fdiv (Nat.gcd a.natAbs b.natAbs : Int)
    rw [Int.fdiv_eq_ediv_of_nonneg _ (by omega)]
    exact (Int.mul_ediv_cancel' da).symm
  have e2 : b = (Nat.gcd a.natAbs b.natAbs : Int) * (low a b).2 := by
    show b = (Nat.gcd a.natAbs b.natAbs : Int) * b.fdiv (Nat.gcd a.natAbs b.natAbs : Int)
    rw [Int.fdiv_eq_ediv_of_nonneg _ (by omega)]
    exact (Int.mul_ediv_cancel' db).symm
  generalize hx : (low a b).1 = x at *
  generalize hy : (low a b).2 = y at *
  refine ⟨(Nat.gcd a.natAbs b.natAbs : Nat), by omega, by omega, rfl, e1, e2, ?_, ?_⟩
  · rw [hy]
    rcases Int.lt_or_le 0 y with h | h
    · omega
    · exfalso
      have : (Nat.gcd a.natAbs b.natAbs : Int) * y ≤ 0 := Int.mul_nonpos_of_nonneg_of_nonpos (by omega) h
      omega
  · rw [hx, hy]
    have n1 : a.natAbs = Nat.gcd a.natAbs b.natAbs * x.natAbs := by
      have := congrArg Int.natAbs e1
      rw [Int.natAbs_mul] at this
      simpa using this
    have n2 : b.natAbs = Nat.gcd a.natAbs b.natAbs * y.natAbs := by
      have := congrArg Int.natAbs e2
      rw [Int.natAbs_mul] at this
      simpa using this
    have n3 : Nat.gcd a.natAbs b.natAbs = Nat.gcd a.natAbs b.natAbs * Nat.gcd x.natAbs y.natAbs := by
      rw [← Nat.gcd_mul_left, ← n1, ← n2]
    exact Nat.eq_of_mul_eq_mul_left hg (by rw [← n3, Nat.mul_one])
/-- log2 below -/
theorem log_lt {n k : Nat} (h : n < 2 ^ k) (h0 : 0 < k) : n.log2 < k := PySem.Flt.log2_lt_of h0 h
theorem settle_ok {a b : Int} (hb : 0 < b) (hs : b.natAbs < 2 ^ 8990) {S : Sto} : rf_settle [.int a, .int b] S = .ok (dq (low a b)) S := by
  obtain ⟨g, h1, h2, hg, -, -, -⟩ := low_spec (a := a) hb
  have hc : ∀ x, CDivA x (Nat.gcd a.natAbs b.natAbs : Int) := fun x => by
    rw [← hg]
    refine ⟨by omega, Nat.lt_trans (log_lt (k := 8990) ?_ (by decide)) (by decide)⟩
    exact Nat.lt_of_le_of_lt (by omega) hs
  have nb : ¬ b < 0 := by omega
  simp [rf_settle, ev_settle, eVar, eC, eB, eU, eL, boolOf, eTest, eNotT, eAndT, eOrT, eNot, eAnd, eOr, eIf, aNil, aCons, eTup, eLst, eChain, sSkip, sSeq, sAsg, sPar, sExpr, sRet, sRetN, sIf, sBrk, sCont, sSub, eCall, eKw, runDef, begins, dI0, dI, dSub, dLt, dLe, dGt, dGe, dNeg, dInt, dAbs, dGcd, dDiv, dMod, sBind, bTup, bCons, bNil, bName, eMt, iSeq, iRange, ofRes, flowRes, srcOf, nb, hc, dTup_ok, dq, low]
/-! Euclid -/
theorem common_loop {b : Nat} : ∀ (n : Nat) (a : Nat) (S : Sto), b < n → whileLoop (eTest (eB dNe (eVar 1) (eC (.int 0)))) (sPar 0 1 (eVar 1) (eB dMod (eL dInt (aCons (eVar 0) aNil)) (eVar 1))) n [some (.int a), some (.int b)] S = .next [some (.int (Nat.gcd a b : Nat)), some (.int 0)] S := by
  induction b using Nat.strongRecOn with
  | ind b ih =>
    intro n a S hn
    match n, hn with
    | n + 1, hn =>
      by_cases hb : b = 0
      · subst hb
        rw [while_done (S1 := S) (by simp [eVar, eC, eB, eU, eL, boolOf, eTest, eNotT, eAndT, eOrT, eNot, eAnd, eOr, eIf, aNil, aCons, eTup, eLst, eChain, sSkip, sSeq, sAsg, sPar, sExpr, sRet, sRetN, sIf, sBrk, sCont, sSub, eCall, eKw, runDef, begins, dI0, dI, dSub, dLt, dLe, dGt, dGe, dNeg, dInt, dAbs, dGcd, dDiv, dMod, sBind, bTup, bCons, bNil, bName, eMt, iSeq, iRange, ofRes, flowRes, srcOf])]
        simp
      · have hp : 0 < b := by omega
        have hm := Nat.mod_lt a hp
        rw [while_step (S1 := S) (S2 := S) (ρ2 := [some (.int b), some (.int (a % b : Nat))])]
        · rw [ih (a % b) hm n b S (by omega)]
          rw [Nat.gcd_comm a b, Nat.gcd_rec b a, Nat.gcd_comm]
        · simp [eVar, eC, eB, eU, eL, boolOf, eTest, eNotT, eAndT, eOrT, eNot, eAnd, eOr, eIf, aNil, aCons, eTup, eLst, eChain, sSkip, sSeq, sAsg, sPar, sExpr, sRet, sRetN, sIf, sBrk, sCont, sSub, eCall, eKw, runDef, begins, dI0, dI, dSub, dLt, dLe, dGt, dGe, dNeg, dInt, dAbs, dGcd, dDiv, dMod, sBind, bTup, bCons, bNil, bName, eMt, iSeq, iRange, ofRes, flowRes, srcOf]
          omega
        · have hc : CModA (a : Int) (b : Int) := by
            unfold CModA
            omega
          have e : Int.fmod (a : Int) (b : Int) = ((a % b : Nat) : Int) := by
            rw [Int.fmod_eq_emod_of_nonneg _ (by omega)]
            simp
          simp [eVar, eC, eB, eU, eL, boolOf, eTest, eNotT, eAndT, eOrT, eNot, eAnd, eOr, eIf, aNil, aCons, eTup, eLst, eChain, sSkip, sSeq, sAsg, sPar, sExpr, sRet, sRetN, sIf, sBrk, sCont, sSub, eCall, eKw, runDef, begins, dI0, dI, dSub, dLt, dLe, dGt, dGe, dNeg, dInt, dAbs, dGcd, dDiv, dMod, sBind, bTup, bCons, bNil, bName, eMt, iSeq, iRange, ofRes, flowRes, srcOf, hc, e]
theorem common_ok {a b : Nat} (hb : b < 2 ^ 3000000) {S : Sto} : rf__law_common [.int a, .int b] S = .ok (.int (Nat.gcd a b : Nat)) S := by
  have h : b < fuel := fuel_big (Nat.lt_trans hb (Nat.pow_lt_pow_right (by decide) (by decide)))
  unfold rf__law_common runDef ev__law_common
  rw [seq_next (ρ' := [some (.int (Nat.gcd a b : Nat)), some (.int 0)]) (S' := S)]
  · simp [eVar, eC, eB, eU, eL, boolOf, eTest, eNotT, eAndT, eOrT, eNot, eAnd, eOr, eIf, aNil, aCons, eTup, eLst, eChain, sSkip, sSeq, sAsg, sPar, sExpr, sRet, sRetN, sIf, sBrk, sCont, sSub, eCall, eKw, runDef, begins, dI0, dI, dSub, dLt, dLe, dGt, dGe, dNeg, dInt, dAbs, dGcd, dDiv, dMod, sBind, bTup, bCons, bNil, bName, eMt, iSeq, iRange, ofRes, flowRes, srcOf]
  · unfold sWhile
    exact common_loop fuel a S h
theorem lawlow_ok {a b : Int} (hb : 0 < b) (hs : b.natAbs < 2 ^ 8990) {S : Sto} : rf__law_low [.int a, .int b] S = .ok (dq (low a b)) S := by
  obtain ⟨g, h1, h2, hg, -, -, -⟩ := low_spec (a := a) hb
  have hc : ∀ x, CDivA x (Nat.gcd a.natAbs b.natAbs : Int) := fun x => by
    rw [← hg]
    refine ⟨by omega, Nat.lt_trans (log_lt (k := 8990) ?_ (by decide)) (by decide)⟩
    exact Nat.lt_of_le_of_lt (by omega) hs
  have eb : b = (b.natAbs : Int) := by omega
  have hk : ∀ S, rf__law_common [.int (a.natAbs : Int), .int b] S = .ok (.int (Nat.gcd a.natAbs b.natAbs : Nat)) S := fun S => by
    rw [eb]
    exact common_ok (Nat.lt_trans hs (Nat.pow_lt_pow_right (by decide) (by decide)))
  simp [rf__law_low, ev__law_low, eVar, eC, eB, eU, eL, boolOf, eTest, eNotT, eAndT, eOrT, eNot, eAnd, eOr, eIf, aNil, aCons, eTup, eLst, eChain, sSkip, sSeq, sAsg, sPar, sExpr, sRet, sRetN, sIf, sBrk, sCont, sSub, eCall, eKw, runDef, begins, dI0, dI, dSub, dLt, dLe, dGt, dGe, dNeg, dInt, dAbs, dGcd, dDiv, dMod, sBind, bTup, bCons, bNil, bName, eMt, iSeq, iRange, ofRes, flowRes, srcOf, hk, hc, dTup_ok, dq, low]
theorem lawq_ok {q : Int × Int} (h : Qu q) (hs : q.2.natAbs < 2 ^ 8990) {S : Sto} : rf__law_quotient [dq q] S = .ok (.bl true) S := by
  obtain ⟨a, b⟩ := q
  obtain ⟨h1, h2⟩ := h
  simp at h1 h2 hs
  have eb : b = (b.natAbs : Int) := by omega
  have hk : ∀ S, rf__law_common [.int (a.natAbs : Int), .int b] S = .ok (.int (Nat.gcd a.natAbs b.natAbs : Nat)) S := fun S => by
    rw [eb]
    exact common_ok (Nat.lt_trans hs (Nat.pow_lt_pow_right (by decide) (by decide)))
  have nb : ¬ b < 1 := by omega
  simp [rf__law_quotient, ev__law_quotient, eVar, eC, eB, eU, eL, boolOf, eTest, eNotT, eAndT, eOrT, eNot, eAnd, eOr, eIf, aNil, aCons, eTup, eLst, eChain, sSkip, sSeq, sAsg, sPar, sExpr, sRet, sRetN, sIf, sBrk, sCont, sSub, eCall, eKw, runDef, begins, dI0, dI, dSub, dLt, dLe, dGt, dGe, dNeg, dInt, dAbs, dGcd, dDiv, dMod, sBind, bTup, bCons, bNil, bName, eMt, iSeq, iRange, ofRes, flowRes, srcOf, dq, lw_int, hk, h2, nb]
theorem stands_ok {q : Int × Int} {T B : Int} (h : Qu q) (hs : q.2.natAbs < 2 ^ 8990) (c1 : CMulA q.1 B) (c2 : CMulA q.2 T) (e : q.1 * B = q.2 * T) {S : Sto} : rf__law_stands [dq q, .int T, .int B] S = .ok (.bl true) S := by
  simp [rf__law_stands, ev__law_stands, eVar, eC, eB, eU, eL, boolOf, eTest, eNotT, eAndT, eOrT, eNot, eAnd, eOr, eIf, aNil, aCons, eTup, eLst, eChain, sSkip, sSeq, sAsg, sPar, sExpr, sRet, sRetN, sIf, sBrk, sCont, sSub, eCall, eKw, runDef, begins, dI0, dI, dSub, dLt, dLe, dGt, dGe, dNeg, dInt, dAbs, dGcd, dDiv, dMod, sBind, bTup, bCons, bNil, bName, eMt, iSeq, iRange, ofRes, flowRes, srcOf, lawq_ok h hs, dMul_int c1, dMul_int c2, e]
end LawM
end
section
set_option Elab.async false
set_option linter.all false
set_option maxRecDepth 100000
set_option maxHeartbeats 1000000
/-! P2: fractions in plain Lean. -/
namespace LawM
open PySem PySem.Spec PyProof.Rows L2 MP
def Bt (x : Int) (k : Nat) : Prop := x.natAbs < 2 ^ k
theorem Bt.mono {x : Int} {a b : Nat} (h : Bt x a) (k : a ≤ b) : Bt x b := Nat.lt_of_lt_of_le h (Nat.pow_le_pow_right (by decide) k)
theorem Bt.mul {x y : Int} {a b : Nat} (h : Bt x a) (k : Bt y b) : Bt (x * y) (a + b) := by
  unfold Bt at *
  rw [Int.natAbs_mul, Nat.pow_add]
  exact Nat.mul_lt_mul'' h k
theorem Bt.add {x y : Int} {a : Nat} (h : Bt x a) (k : Bt y a) : Bt (x + y) (a + 1) := by
  unfold Bt at *
  rw [Nat.pow_succ]
  have := Int.natAbs_add_le x y
  omega
theorem Bt.neg {x : Int} {a : Nat} (h : Bt x a) : Bt (-x) a := by
  unfold Bt at *
  rw [Int.natAbs_neg]
  exact h
theorem log_le {n k : Nat} (h : n < 2 ^ k) : n.log2 ≤ k := by
  by_cases hk : k = 0
  · subst hk
    have : n = 0 := by simpa using h
    subst this
    decide
  · exact Nat.le_of_lt (log_lt h (by omega))
theorem mulA {x y : Int} {a b : Nat} (h : Bt x a) (k : Bt y b) (s : a + b < 100000000) : CMulA x y := by
  have h1 := log_le h
  have h2 := log_le k
  unfold CMulA
  omega
theorem divA {x y : Int} {b : Nat} (h : y ≠ 0) (k : Bt y b) (s : b < 9000) : CDivA x y := by
  have h2 := log_le k
  exact ⟨h, by omega⟩
/-! two quotients in lowest terms -/
theorem qu_eq {p q : Int × Int} (hp : Qu p) (hq : Qu q) (e : p.1 * q.2 = q.1 * p.2) : p = q := by
  obtain ⟨a, b⟩ := p
  obtain ⟨c, d⟩ := q
  obtain ⟨h1, h2⟩ := hp
  obtain ⟨h3, h4⟩ := hq
  simp only at h1 h2 h3 h4 e
  have n : a.natAbs * d.natAbs = c.natAbs * b.natAbs := by
    have := congrArg Int.natAbs e
    rwa [Int.natAbs_mul, Int.natAbs_mul] at this
  have d1 : b.natAbs ∣ d.natAbs := by
    have : b.natAbs ∣ a.natAbs * d.natAbs := by rw [n]; exact Nat.dvd_mul_left _ _
    exact (Nat.Coprime.dvd_of_dvd_mul_left (Nat.Coprime.symm h2) this)
  have d2 : d.natAbs ∣ b.natAbs := by
    have : d.natAbs ∣ c.natAbs * b.natAbs := by rw [← n]; exact Nat.dvd_mul_left _ _
    exact (Nat.Coprime.dvd_of_dvd_mul_left (Nat.Coprime.symm h4) this)
  have e1 : b.natAbs = d.natAbs := Nat.dvd_antisymm d1 d2
  have e2 : b = d := by omega
  subst e2
  have e3 : a = c := Int.eq_of_mul_eq_mul_right (by omega) e
  rw [e3]
/-- q is T / B -/
def St (q : Int × Int) (T B : Int) : Prop := Qu q ∧ q.1 * B = q.2 * T
theorem St.eq {p q : Int × Int} {T B : Int} (hp : St p T B) (hq : St q T B) (hB : B ≠ 0) : p = q := by
  refine qu_eq hp.1 hq.1 (Int.eq_of_mul_eq_mul_right hB ?_)
  have h1 := hp.2
  have h2 := hq.2
  calc p.1 * q.2 * B = (p.1 * B) * q.2 := by rw [Int.mul_assoc, Int.mul_comm q.2 B, ← Int.mul_assoc]
    _ = p.2 * T * q.2 := by rw [h1]
    _ = p.2 * (q.2 * T) := by rw [Int.mul_assoc, Int.mul_comm T]
    _ = p.2 * (q.1 * B) := by rw [h2]
    _ = q.1 * p.2 * B := by rw [← Int.mul_assoc, Int.mul_comm p.2]
theorem st_low {a b : Int} (hb : 0 < b) {T B : Int} (e : a * B = b * T) : St (low a b) T B := by
  obtain ⟨g, h1, h2, -, h3, h4, h5⟩ := low_spec (a := a) hb
  refine ⟨h5, Int.eq_of_mul_eq_mul_left (a := g) (by omega) ?_⟩
  rw [← Int.mul_assoc, ← h3, ← Int.mul_assoc, ← h4, e]
theorem low_bt {a b : Int} {k : Nat} (hb : 0 < b) (ha : Bt a k) : Bt (low a b).1 k := by
  obtain ⟨g, h1, h2, -, h3, h4, h5⟩ := low_spec (a := a) hb
  unfold Bt at *
  have : a.natAbs = g.natAbs * (low a b).1.natAbs := by rw [← Int.natAbs_mul, ← h3]
  have : (low a b).1.natAbs ≤ a.natAbs := by
    rw [this]
    exact Nat.le_mul_of_pos_left _ (by omega)
  omega
theorem low_bt2 {a b : Int} {k : Nat} (hb : 0 < b) (ha : Bt b k) : Bt (low a b).2 k := by
  obtain ⟨g, h1, h2, -, h3, h4, h5⟩ := low_spec (a := a) hb
  unfold Bt at *
  have : b.natAbs = g.natAbs * (low a b).2.natAbs := by rw [← Int.natAbs_mul, ← h4]
  have : (low a b).2.natAbs ≤ b.natAbs := by
    rw [this]
    exact Nat.le_mul_of_pos_left _ (by omega)
  omega
/-! the sum of a row of fractions -/
def fold1 (t b : Int) (q : Int × Int) : Int × Int := (t * q.2 + q.1 * b, b * q.2)
def foldF : List (Int × Int) → Int × Int → Int × Int
  | [], s => s
  | q :: z, s => foldF z (fold1 s.1 s.2 q)
def fold (z : List (Int × Int)) : Int × Int := foldF z (0, 1)
def sumT (L : Int) : List (Int × Int) → Int
  | [] => 0
  | q :: z => q.1 * L.fdiv q.2 + sumT L z
def lcmF : List (Int × Int) → Nat → Nat
  | [], L => L
  | q :: z, L => lcmF z (Nat.lcm L q.2.natAbs)
def LL (z : List (Int × Int)) : Nat := lcmF z 1
def res (z : List (Int × Int)) : Int × Int := low (sumT (LL z) z) (LL z)
theorem lcmF_dvd {m : Nat} : ∀ (z : List (Int × Int)) (L : Nat), lcmF z L ∣ m ↔ L ∣ m ∧ ∀ q ∈ z, q.2.natAbs ∣ m
  | [], L => by simp [lcmF]
  | q :: z, L => by
    rw [lcmF, lcmF_dvd z]
    simp only [Nat.lcm_dvd_iff, List.mem_cons, forall_eq_or_imp]
    constructor
    · rintro ⟨⟨a, b⟩, c⟩
      exact ⟨a, b, c⟩
    · rintro ⟨a, b, c⟩
      exact ⟨⟨a, b⟩, c⟩
theorem LL_dvd {z : List (Int × Int)} {q : Int × Int} (h : q ∈ z) : q.2.natAbs ∣ LL z := ((lcmF_dvd z 1).mp (Nat.dvd_refl _)).2 q h
theorem lcmF_le {γ : Nat} : ∀ (z : List (Int × Int)) (L : Nat) (k : Nat), 0 < L → L ≤ 2 ^ k → (∀ q ∈ z, 0 < q.2 ∧ Bt q.2 γ) → 0 < lcmF z L ∧ lcmF z L ≤ 2 ^ (k + γ * z.length)
  | [], L, k, h0, h, _ => by
    simp [lcmF]
    exact ⟨h0, h⟩
  | q :: z, L, k, h0, h, hz => by
    obtain ⟨h1, h2⟩ := hz q (by simp)
    have hp : 0 < q.2.natAbs := by omega
    have l1 : 0 < Nat.lcm L q.2.natAbs := Nat.lcm_pos h0 hp
    have l2 : Nat.lcm L q.2.natAbs ≤ 2 ^ (k + γ) := by
      refine Nat.le_trans (Nat.le_of_dvd (Nat.mul_pos h0 hp) (Nat.lcm_dvd_mul _ _)) ?_
      rw [Nat.pow_add]
      exact Nat.mul_le_mul h (Nat.le_of_lt h2)
    obtain ⟨a, b⟩ := lcmF_le z _ (k + γ) l1 l2 fun r hr => hz r (by simp [hr])
    refine ⟨a, Nat.le_trans b (Nat.pow_le_pow_right (by decide) ?_)⟩
    simp only [List.length_cons, Nat.mul_add]
    omega
theorem sum_fold {L : Int} : ∀ (z : List (Int × Int)) (t b x : Int), (∀ q ∈ z, q.2 ≠ 0 ∧ q.2 ∣ L) → x * b = L * t → (x + sumT L z) * (foldF z (t, b)).2 = L * (foldF z (t, b)).1
  | [], t, b, x, _, e => by
    simp [sumT, foldF]
    exact e
  | q :: z, t, b, x, hz, e => by
    obtain ⟨h0, k, hk⟩ := hz q (by simp)
    have e1 : L.fdiv q.2 = k := by
      rw [hk]
      exact Int.mul_fdiv_cancel_left _ h0
    have := sum_fold z (t * q.2 + q.1 * b) (b * q.2) (x + q.1 * L.fdiv q.2) (fun r hr => hz r (by simp [hr])) (by
      rw [e1]
      rw [Int.add_mul, ← Int.mul_assoc, e, Int.mul_add]
      have h1 : q.1 * k * (b * q.2) = L * (q.1 * b) := by
        rw [hk]
        simp only [Int.mul_comm, Int.mul_left_comm]
      rw [h1]
      simp only [Int.mul_assoc])
    rw [sumT, foldF]
    rw [← Int.add_assoc]
    exact this
theorem foldF_pos : ∀ (z : List (Int × Int)) (t b : Int), 0 < b → (∀ q ∈ z, 0 < q.2) → 0 < (foldF z (t, b)).2
  | [], t, b, h, _ => h
  | q :: z, t, b, h, hz => foldF_pos z _ _ (Int.mul_pos h (hz q (by simp))) fun r hr => hz r (by simp [hr])
theorem foldF_bt {γ : Nat} : ∀ (z : List (Int × Int)) (t b : Int) (k : Nat), Bt t k → Bt b k → (∀ q ∈ z, Bt q.1 γ ∧ Bt q.2 γ) → Bt (foldF z (t, b)).1 (k + (γ + 1) * z.length) ∧ Bt (foldF z (t, b)).2 (k + (γ + 1) * z.length)
  | [], t, b, k, h1, h2, _ => by
    simp [foldF]
    exact ⟨h1, h2⟩
  | q :: z, t, b, k, h1, h2, hz => by
    obtain ⟨a1, a2⟩ := hz q (by simp)
    have m1 : Bt (t * q.2 + q.1 * b) (k + γ + 1) := (h1.mul a2).add ((a1.mul h2).mono (by omega))
    have m2 : Bt (b * q.2) (k + γ + 1) := (h2.mul a2).mono (by omega)
    obtain ⟨c1, c2⟩ := foldF_bt z _ _ _ m1 m2 fun r hr => hz r (by simp [hr])
    have e : k + γ + 1 + (γ + 1) * z.length ≤ k + (γ + 1) * (q :: z).length := by
      simp only [List.length_cons, Nat.mul_add]
      omega
    exact ⟨c1.mono e, c2.mono e⟩
/-- a row of fractions of γ bits -/
def Fr (z : List (Int × Int)) (γ : Nat) : Prop := (∀ q ∈ z, 0 < q.2 ∧ Bt q.1 γ ∧ Bt q.2 γ) ∧ γ * z.length ≤ 8900
theorem Fr.ll {z : List (Int × Int)} {γ : Nat} (h : Fr z γ) : 0 < LL z ∧ LL z < 2 ^ 8990 := by
  obtain ⟨a, b⟩ := lcmF_le z 1 0 (by decide) (by decide) fun q hq => ⟨(h.1 q hq).1, (h.1 q hq).2.2⟩
  exact ⟨a, Nat.lt_of_le_of_lt b (Nat.pow_lt_pow_right (by decide) (by have := h.2; omega))⟩
theorem Fr.st {z : List (Int × Int)} {γ : Nat} (h : Fr z γ) : St (res z) (fold z).1 (fold z).2 ∧ 0 < (fold z).2 := by
  obtain ⟨a, b⟩ := h.ll
  have := sum_fold (L := (LL z : Int)) z 0 1 0 (fun q hq => ⟨by have := (h.1 q hq).1; omega, Int.natAbs_dvd_natAbs.mp (by simpa using LL_dvd hq)⟩) (by simp)
  rw [Int.zero_add] at this
  exact ⟨st_low (by omega) this, foldF_pos z 0 1 (by decide) fun q hq => (h.1 q hq).1⟩
theorem sumT_append {L : Int} : ∀ x y : List (Int × Int), sumT L (x ++ y) = sumT L x + sumT L y
  | [], y => by simp [sumT]
  | q :: x, y => by rw [List.cons_append, sumT, sumT, sumT_append x y, Int.add_assoc]
theorem sumT_reverse {L : Int} : ∀ x : List (Int × Int), sumT L x.reverse = sumT L x
  | [] => rfl
  | q :: x => by
    rw [List.reverse_cons, sumT_append, sumT_reverse x, sumT, sumT, sumT, Int.add_zero, Int.add_comm]
theorem LL_reverse {z : List (Int × Int)} : LL z.reverse = LL z := by
  refine Nat.dvd_antisymm ?_ ?_
  · exact (lcmF_dvd _ 1).mpr ⟨Nat.one_dvd _, fun q hq => LL_dvd (List.mem_reverse.mp hq)⟩
  · exact (lcmF_dvd _ 1).mpr ⟨Nat.one_dvd _, fun q hq => LL_dvd (List.mem_reverse.mpr hq)⟩
theorem res_reverse {z : List (Int × Int)} : res z.reverse = res z := by
  unfold res
  rw [LL_reverse, sumT_reverse]
/-- the products of two rows -/
def zl (l r : List (Int × Int)) : List (Int × Int) := List.zipWith (fun a b => (a.1 * b.1, a.2 * b.2)) l r
theorem zl_comm (l r : List (Int × Int)) : zl l r = zl r l := by
  unfold zl
  rw [List.zipWith_comm]
  congr 1
  funext a b
  rw [Int.mul_comm, Int.mul_comm a.2]
theorem zl_reverse {l r : List (Int × Int)} (h : l.length = r.length) : zl l.reverse r.reverse = (zl l r).reverse := by
  unfold zl
  rw [List.reverse_zipWith h]
theorem zl_ones : ∀ (l : List (Int × Int)), zl l (List.replicate l.length (1, 1)) = l
  | [] => rfl
  | q :: l => by
    have := zl_ones l
    unfold zl at this ⊢
    simp [List.replicate_succ, this]
/-- a drawn row: n quotients of β bits -/
structure Rw (β n : Nat) (l : List (Int × Int)) : Prop where
  len : l.length = n
  qu : ∀ q ∈ l, Qu q
  bt : ∀ q ∈ l, Bt q.1 β ∧ Bt q.2 β
theorem Rw.fr {β n : Nat} {l : List (Int × Int)} (h : Rw β n l) (hb : β * n ≤ 4450) : Fr l β :=
  ⟨fun q hq => ⟨by have := (h.qu q hq).1; omega, h.bt q hq⟩, by rw [h.len]; omega⟩
theorem Rw.zz {β n : Nat} {l r : List (Int × Int)} (h : Rw β n l) (h' : Rw β n r) (hb : β * n ≤ 4450) : Fr (zl l r) (β + β) := by
  refine ⟨fun q hq => ?_, ?_⟩
  · unfold zl at hq
    obtain ⟨i, hi, e⟩ := List.mem_iff_getElem.mp hq
    simp only [List.length_zipWith] at hi
    rw [List.getElem_zipWith] at e
    subst e
    have m1 : l[i]'(by omega) ∈ l := List.getElem_mem _
    have m2 : r[i]'(by omega) ∈ r := List.getElem_mem _
    have a1 := h.bt _ m1
    have a2 := h'.bt _ m2
    have a3 := (h.qu _ m1).1
    have a4 := (h'.qu _ m2).1
    exact ⟨Int.mul_pos (by omega) (by omega), a1.1.mul a2.1, a1.2.mul a2.2⟩
  · have : (zl l r).length = n := by
      unfold zl
      simp [h.len, h'.len]
    rw [this, Nat.add_mul]
    omega
end LawM
end
section
set_option Elab.async false
set_option linter.all false
set_option maxRecDepth 100000
set_option maxHeartbeats 1000000
/-! P3: what the program's functions answer. -/
namespace LawM
open PySem PySem.Spec PyProof.Rows L2 MP
theorem boolsOf_map (f : D → Bool) : ∀ ds : List D, boolsOf (ds.map fun d => .bl (f d)) = some (ds.map f)
  | [] => rfl
  | d :: ds => by
    rw [List.map_cons, boolsOf, boolsOf_map f ds]
    rfl
theorem intsOf_map {α : Type} (f : α → Int) : ∀ ds : List α, intsOf (ds.map fun d => .int (f d)) = some (ds.map f)
  | [] => rfl
  | d :: ds => by
    rw [List.map_cons, intsOf, intsOf_map f ds]
    rfl
theorem isrow_gen (ds : List D) (f : D → Bool) (h : ∀ d ∈ ds, ∀ S, rf_is_quotient [d] S = .ok (.bl (f d)) S) (hn : ds.length ≤ 1000000) (S : Sto) : rf__is_row [.tup ds] S = .ok (.bl (ds.all f)) (S ++ [ds.map fun d => .bl (f d)]) := by
  have e : eLc (iSeq (eVar 0)) (bName 1) tTrue (eCall 1 rf_is_quotient (aCons (eVar 1) aNil)) [1] [some (.tup ds), none] S = .ok (.lst S.length) (S ++ [ds.map fun d => .bl (f d)]) := by
    unfold eLc
    simp only [eVar, eC, eB, eU, eL, boolOf, eTest, eNotT, eAndT, eOrT, eNot, eAnd, eOr, eIf, aNil, aCons, eTup, eLst, eChain, sSkip, sSeq, sAsg, sPar, sExpr, sRet, sRetN, sIf, sBrk, sCont, sSub, eCall, eKw, runDef, begins, dI0, dI, dSub, dLt, dLe, dGt, dGe, dNeg, dInt, dAbs, dGcd, dDiv, dMod, sBind, bTup, bCons, bNil, bName, eMt, iSeq, iRange, ofRes, flowRes, srcOf, Res.bind_ok, List.getElem?_cons_zero, wipeE]
    rw [lc_map (fun d => .bl (f d)) trivial ds [] (by simpa using hn)]
    · rfl
    · intro d hd
      refine ⟨_, rfl, rfl, ?_⟩
      simp [eVar, eC, eB, eU, eL, boolOf, eTest, eNotT, eAndT, eOrT, eNot, eAnd, eOr, eIf, aNil, aCons, eTup, eLst, eChain, sSkip, sSeq, sAsg, sPar, sExpr, sRet, sRetN, sIf, sBrk, sCont, sSub, eCall, eKw, runDef, begins, dI0, dI, dSub, dLt, dLe, dGt, dGe, dNeg, dInt, dAbs, dGcd, dDiv, dMod, sBind, bTup, bCons, bNil, bName, eMt, iSeq, iRange, ofRes, flowRes, srcOf, h d hd]
  have e2 : dAll [.lst S.length] (S ++ [ds.map fun d => .bl (f d)]) = some (.bl (ds.all f), S ++ [ds.map fun d => .bl (f d)]) := by
    unfold dAll
    simp [boolsOf_map]
  unfold rf__is_row ev__is_row
  simp only [eVar, eC, eB, eU, eL, boolOf, eTest, eNotT, eAndT, eOrT, eNot, eAnd, eOr, eIf, aNil, aCons, eTup, eLst, eChain, sSkip, sSeq, sAsg, sPar, sExpr, sRet, sRetN, sIf, sBrk, sCont, sSub, eCall, eKw, runDef, begins, dI0, dI, dSub, dLt, dLe, dGt, dGe, dNeg, dInt, dAbs, dGcd, dDiv, dMod, sBind, bTup, bCons, bNil, bName, eMt, iSeq, iRange, ofRes, flowRes, srcOf, List.map, List.length, List.replicate, List.getElem?_cons_zero, List.cons_append, List.nil_append, Res.bind_ok, isi_tt, lift_some, if_true, Nat.zero_add, Nat.reduceAdd, Nat.reduceSub] at e ⊢
  rw [e]
  simp only [Res.bind_ok]
  rw [e2]
  rfl
theorem isrow_ok {l : List (Int × Int)} (h : ∀ q ∈ l, Qu q) (hn : l.length ≤ 1000) (S : Sto) : ∃ G, rf__is_row [.tup (l.map dq)] S = .ok (.bl true) (S ++ G) := by
  have e := isrow_gen (l.map dq) (fun _ => true) (fun d hd S => by
    obtain ⟨q, hq, rfl⟩ := List.mem_map.mp hd
    exact isq_dq (h q hq)) (by simp; omega) S
  have : (l.map dq).all (fun _ => true) = true := by simp
  rw [this] at e
  exact ⟨_, e⟩
theorem isrow_bad {l r : List (Int × Int)} {d : D} (h : ∀ q ∈ l, Qu q) (h' : ∀ q ∈ r, Qu q) (hd : Bad d) (hn : l.length + r.length ≤ 1000) (S : Sto) : ∃ G, rf__is_row [.tup (l.map dq ++ d :: r.map dq)] S = .ok (.bl false) (S ++ G) := by
  classical
  have e := isrow_gen (l.map dq ++ d :: r.map dq) (fun x => if Bad x then false else true) (fun x hx S => by
    by_cases hb : Bad x
    · rw [if_pos hb]
      exact isq_bad hb
    · rw [if_neg hb]
      rcases List.mem_append.mp hx with hx | hx
      · obtain ⟨q, hq, rfl⟩ := List.mem_map.mp hx
        exact isq_dq (h q hq)
      · rcases List.mem_cons.mp hx with rfl | hx
        · exact absurd hd hb
        · obtain ⟨q, hq, rfl⟩ := List.mem_map.mp hx
          exact isq_dq (h' q hq)) (by simp; omega) S
  have : (l.map dq ++ d :: r.map dq).all (fun x => if Bad x then false else true) = false := by
    simp only [List.all_append, List.all_cons, if_pos hd, Bool.false_and, Bool.and_false]
  rw [this] at e
  exact ⟨_, e⟩
theorem isrow_lst {n : Nat} (S : Sto) : rf__is_row [.lst n] S = .ok (.bl false) S := by
  simp [rf__is_row, ev__is_row, eVar, eC, eB, eU, eL, boolOf, eTest, eNotT, eAndT, eOrT, eNot, eAnd, eOr, eIf, aNil, aCons, eTup, eLst, eChain, sSkip, sSeq, sAsg, sPar, sExpr, sRet, sRetN, sIf, sBrk, sCont, sSub, eCall, eKw, runDef, begins, dI0, dI, dSub, dLt, dLe, dGt, dGe, dNeg, dInt, dAbs, dGcd, dDiv, dMod, sBind, bTup, bCons, bNil, bName, eMt, iSeq, iRange, ofRes, flowRes, srcOf]
/-- refused -/
def Ref (r : Res D) (w : Str) (S : Sto) : Prop := ∃ G, r = .exc "NotUsable" ["at", "word"] [.int (-1), .str w] (S ++ G)
/-- answered -/
def Ans (r : Res D) (d : D) (S : Sto) : Prop := ∃ G, r = .ok d (S ++ G)
/-- what is no row -/
def NoRow (d : D) : Prop := ∀ S, Ans (rf__is_row [d] S) (.bl false) S
def IsRow (d : D) : Prop := ∀ S, Ans (rf__is_row [d] S) (.bl true) S
theorem norow_lst {n : Nat} : NoRow (.lst n) := fun S => ⟨[], by rw [isrow_lst]; simp⟩
theorem total_ref {d : D} (h : NoRow d) (S : Sto) : Ref (rf_total [d] S) "row" S := by
  obtain ⟨G, e⟩ := h S
  refine ⟨G, ?_⟩
  simp [rf_total, ev_total, eVar, eC, eB, eU, eL, boolOf, eTest, eNotT, eAndT, eOrT, eNot, eAnd, eOr, eIf, aNil, aCons, eTup, eLst, eChain, sSkip, sSeq, sAsg, sPar, sExpr, sRet, sRetN, sIf, sBrk, sCont, sSub, eCall, eKw, runDef, begins, dI0, dI, dSub, dLt, dLe, dGt, dGe, dNeg, dInt, dAbs, dGcd, dDiv, dMod, sBind, bTup, bCons, bNil, bName, eMt, iSeq, iRange, ofRes, flowRes, srcOf, e, sRaise]
theorem weighed_ref1 {d d' : D} (h : NoRow d) (S : Sto) : Ref (rf_weighed [d, d'] S) "row" S := by
  obtain ⟨G, e⟩ := h S
  refine ⟨G, ?_⟩
  simp [rf_weighed, ev_weighed, eVar, eC, eB, eU, eL, boolOf, eTest, eNotT, eAndT, eOrT, eNot, eAnd, eOr, eIf, aNil, aCons, eTup, eLst, eChain, sSkip, sSeq, sAsg, sPar, sExpr, sRet, sRetN, sIf, sBrk, sCont, sSub, eCall, eKw, runDef, begins, dI0, dI, dSub, dLt, dLe, dGt, dGe, dNeg, dInt, dAbs, dGcd, dDiv, dMod, sBind, bTup, bCons, bNil, bName, eMt, iSeq, iRange, ofRes, flowRes, srcOf, e, sRaise]
theorem weighed_ref2 {d d' : D} (h : IsRow d) (h' : NoRow d') (S : Sto) : Ref (rf_weighed [d, d'] S) "others" S := by
  obtain ⟨G, e⟩ := h S
  obtain ⟨G', e'⟩ := h' (S ++ G)
  refine ⟨G ++ G', ?_⟩
  simp at e'
  simp [rf_weighed, ev_weighed, eVar, eC, eB, eU, eL, boolOf, eTest, eNotT, eAndT, eOrT, eNot, eAnd, eOr, eIf, aNil, aCons, eTup, eLst, eChain, sSkip, sSeq, sAsg, sPar, sExpr, sRet, sRetN, sIf, sBrk, sCont, sSub, eCall, eKw, runDef, begins, dI0, dI, dSub, dLt, dLe, dGt, dGe, dNeg, dInt, dAbs, dGcd, dDiv, dMod, sBind, bTup, bCons, bNil, bName, eMt, iSeq, iRange, ofRes, flowRes, srcOf, e, e', sRaise]
theorem weighed_ref3 {xs ys : List D} (h : IsRow (.tup xs)) (h' : IsRow (.tup ys)) (hl : ys.length ≠ xs.length) (S : Sto) : Ref (rf_weighed [.tup xs, .tup ys] S) "others" S := by
  obtain ⟨G, e⟩ := h S
  obtain ⟨G', e'⟩ := h' (S ++ G)
  refine ⟨G ++ G', ?_⟩
  have hl' : ¬ ((ys.length : Int) = (xs.length : Int)) := by omega
  simp at e'
  simp [rf_weighed, ev_weighed, eVar, eC, eB, eU, eL, boolOf, eTest, eNotT, eAndT, eOrT, eNot, eAnd, eOr, eIf, aNil, aCons, eTup, eLst, eChain, sSkip, sSeq, sAsg, sPar, sExpr, sRet, sRetN, sIf, sBrk, sCont, sSub, eCall, eKw, runDef, begins, dI0, dI, dSub, dLt, dLe, dGt, dGe, dNeg, dInt, dAbs, dGcd, dDiv, dMod, sBind, bTup, bCons, bNil, bName, eMt, iSeq, iRange, ofRes, flowRes, srcOf, e, e', sRaise, hl']
theorem need_ref {d : D} (h : NoRow d) (S : Sto) : Ref (rf__need_some [d] S) "row" S := by
  obtain ⟨G, e⟩ := h S
  refine ⟨G, ?_⟩
  simp [rf__need_some, ev__need_some, eVar, eC, eB, eU, eL, boolOf, eTest, eNotT, eAndT, eOrT, eNot, eAnd, eOr, eIf, aNil, aCons, eTup, eLst, eChain, sSkip, sSeq, sAsg, sPar, sExpr, sRet, sRetN, sIf, sBrk, sCont, sSub, eCall, eKw, runDef, begins, dI0, dI, dSub, dLt, dLe, dGt, dGe, dNeg, dInt, dAbs, dGcd, dDiv, dMod, sBind, bTup, bCons, bNil, bName, eMt, iSeq, iRange, ofRes, flowRes, srcOf, e, sRaise]
theorem need_ref0 (S : Sto) : Ref (rf__need_some [.tup []] S) "row" S := by
  obtain ⟨G, e⟩ := isrow_ok (l := []) (by simp) (by simp) S
  refine ⟨G, ?_⟩
  simp at e
  simp [rf__need_some, ev__need_some, eVar, eC, eB, eU, eL, boolOf, eTest, eNotT, eAndT, eOrT, eNot, eAnd, eOr, eIf, aNil, aCons, eTup, eLst, eChain, sSkip, sSeq, sAsg, sPar, sExpr, sRet, sRetN, sIf, sBrk, sCont, sSub, eCall, eKw, runDef, begins, dI0, dI, dSub, dLt, dLe, dGt, dGe, dNeg, dInt, dAbs, dGcd, dDiv, dMod, sBind, bTup, bCons, bNil, bName, eMt, iSeq, iRange, ofRes, flowRes, srcOf, e, sRaise]
theorem need_ok {xs : List D} (h : IsRow (.tup xs)) (hl : xs ≠ []) (S : Sto) : Ans (rf__need_some [.tup xs] S) .non S := by
  obtain ⟨G, e⟩ := h S
  refine ⟨G, ?_⟩
  have hl' : ¬ ((xs.length : Int) = 0) := by
    have := List.length_pos_iff.mpr hl
    omega
  have hl'' : xs.length ≠ 0 := by
    have := List.length_pos_iff.mpr hl
    omega
  simp [rf__need_some, ev__need_some, eVar, eC, eB, eU, eL, boolOf, eTest, eNotT, eAndT, eOrT, eNot, eAnd, eOr, eIf, aNil, aCons, eTup, eLst, eChain, sSkip, sSeq, sAsg, sPar, sExpr, sRet, sRetN, sIf, sBrk, sCont, sSub, eCall, eKw, runDef, begins, dI0, dI, dSub, dLt, dLe, dGt, dGe, dNeg, dInt, dAbs, dGcd, dDiv, dMod, sBind, bTup, bCons, bNil, bName, eMt, iSeq, iRange, ofRes, flowRes, srcOf, e, sRaise, hl', hl'', hl]
theorem least_ref {d : D} (h : ∀ S, Ref (rf__need_some [d] S) "row" S) (S : Sto) : Ref (rf_least_of [d] S) "row" S := by
  obtain ⟨G, e⟩ := h S
  refine ⟨G, ?_⟩
  simp [rf_least_of, ev_least_of, eVar, eC, eB, eU, eL, boolOf, eTest, eNotT, eAndT, eOrT, eNot, eAnd, eOr, eIf, aNil, aCons, eTup, eLst, eChain, sSkip, sSeq, sAsg, sPar, sExpr, sRet, sRetN, sIf, sBrk, sCont, sSub, eCall, eKw, runDef, begins, dI0, dI, dSub, dLt, dLe, dGt, dGe, dNeg, dInt, dAbs, dGcd, dDiv, dMod, sBind, bTup, bCons, bNil, bName, eMt, iSeq, iRange, ofRes, flowRes, srcOf, e]
theorem greatest_ref {d : D} (h : ∀ S, Ref (rf__need_some [d] S) "row" S) (S : Sto) : Ref (rf_greatest_of [d] S) "row" S := by
  obtain ⟨G, e⟩ := h S
  refine ⟨G, ?_⟩
  simp [rf_greatest_of, ev_greatest_of, eVar, eC, eB, eU, eL, boolOf, eTest, eNotT, eAndT, eOrT, eNot, eAnd, eOr, eIf, aNil, aCons, eTup, eLst, eChain, sSkip, sSeq, sAsg, sPar, sExpr, sRet, sRetN, sIf, sBrk, sCont, sSub, eCall, eKw, runDef, begins, dI0, dI, dSub, dLt, dLe, dGt, dGe, dNeg, dInt, dAbs, dGcd, dDiv, dMod, sBind, bTup, bCons, bNil, bName, eMt, iSeq, iRange, ofRes, flowRes, srcOf, e]
theorem two_ok {p q : Int × Int} (hp : Qu p) (hq : Qu q) {S : Sto} : rf__need_two [dq p, dq q] S = .ok .non S := by
  simp [rf__need_two, ev__need_two, eVar, eC, eB, eU, eL, boolOf, eTest, eNotT, eAndT, eOrT, eNot, eAnd, eOr, eIf, aNil, aCons, eTup, eLst, eChain, sSkip, sSeq, sAsg, sPar, sExpr, sRet, sRetN, sIf, sBrk, sCont, sSub, eCall, eKw, runDef, begins, dI0, dI, dSub, dLt, dLe, dGt, dGe, dNeg, dInt, dAbs, dGcd, dDiv, dMod, sBind, bTup, bCons, bNil, bName, eMt, iSeq, iRange, ofRes, flowRes, srcOf, isq_dq hp, isq_dq hq]
theorem less_ok {p q : Int × Int} (hp : Qu p) (hq : Qu q) (c1 : CMulA p.1 q.2) (c2 : CMulA q.1 p.2) {S : Sto} : rf_is_less [dq p, dq q] S = .ok (.bl (decide (p.1 * q.2 < q.1 * p.2))) S := by
  simp [rf_is_less, ev_is_less, eVar, eC, eB, eU, eL, boolOf, eTest, eNotT, eAndT, eOrT, eNot, eAnd, eOr, eIf, aNil, aCons, eTup, eLst, eChain, sSkip, sSeq, sAsg, sPar, sExpr, sRet, sRetN, sIf, sBrk, sCont, sSub, eCall, eKw, runDef, begins, dI0, dI, dSub, dLt, dLe, dGt, dGe, dNeg, dInt, dAbs, dGcd, dDiv, dMod, sBind, bTup, bCons, bNil, bName, eMt, iSeq, iRange, ofRes, flowRes, srcOf, two_ok hp hq, dMul_int c1, dMul_int c2]
theorem plus_ok {p q : Int × Int} (hp : Qu p) (hq : Qu q) (c1 : CMulA p.1 q.2) (c2 : CMulA q.1 p.2) (c3 : CMulA p.2 q.2) (hb : (p.2 * q.2).natAbs < 2 ^ 8990) {S : Sto} : rf_plus [dq p, dq q] S = .ok (dq (low (p.1 * q.2 + q.1 * p.2) (p.2 * q.2))) S := by
  have h0 : 0 < p.2 * q.2 := Int.mul_pos (by have := hp.1; omega) (by have := hq.1; omega)
  simp [rf_plus, ev_plus, eVar, eC, eB, eU, eL, boolOf, eTest, eNotT, eAndT, eOrT, eNot, eAnd, eOr, eIf, aNil, aCons, eTup, eLst, eChain, sSkip, sSeq, sAsg, sPar, sExpr, sRet, sRetN, sIf, sBrk, sCont, sSub, eCall, eKw, runDef, begins, dI0, dI, dSub, dLt, dLe, dGt, dGe, dNeg, dInt, dAbs, dGcd, dDiv, dMod, sBind, bTup, bCons, bNil, bName, eMt, iSeq, iRange, ofRes, flowRes, srcOf, two_ok hp hq, dMul_int c1, dMul_int c2, dMul_int c3, settle_ok h0 hb]
theorem times_ok {p q : Int × Int} (hp : Qu p) (hq : Qu q) (c1 : CMulA p.1 q.1) (c3 : CMulA p.2 q.2) (hb : (p.2 * q.2).natAbs < 2 ^ 8990) {S : Sto} : rf_times [dq p, dq q] S = .ok (dq (low (p.1 * q.1) (p.2 * q.2))) S := by
  have h0 : 0 < p.2 * q.2 := Int.mul_pos (by have := hp.1; omega) (by have := hq.1; omega)
  simp [rf_times, ev_times, eVar, eC, eB, eU, eL, boolOf, eTest, eNotT, eAndT, eOrT, eNot, eAnd, eOr, eIf, aNil, aCons, eTup, eLst, eChain, sSkip, sSeq, sAsg, sPar, sExpr, sRet, sRetN, sIf, sBrk, sCont, sSub, eCall, eKw, runDef, begins, dI0, dI, dSub, dLt, dLe, dGt, dGe, dNeg, dInt, dAbs, dGcd, dDiv, dMod, sBind, bTup, bCons, bNil, bName, eMt, iSeq, iRange, ofRes, flowRes, srcOf, two_ok hp hq, dMul_int c1, dMul_int c3, settle_ok h0 hb]
end LawM
end
section
set_option Elab.async false
set_option linter.all false
set_option maxRecDepth 100000
set_option maxHeartbeats 1000000
/-! P4: sums and orders of good rows. -/
namespace LawM
open PySem PySem.Spec PyProof.Rows L2 MP
theorem lcm_int {L : Nat} {j : Int} (h1 : L < 2 ^ 13400) (h2 : j.natAbs < 2 ^ 13400) {S : Sto} : dLcm [.int (L : Int), .int j] S = some (.int ((Nat.lcm L j.natAbs : Nat) : Int), S) := by
  unfold dLcm
  have : lcmOk (L : Int) j := ⟨by simpa using h1, h2⟩
  simp [this]
theorem pow_lt {n k : Nat} (h : n ≤ 2 ^ k) (hk : k < 13400) : n < 2 ^ 13400 := Nat.lt_of_le_of_lt h (Nat.pow_lt_pow_right (by decide) hk)
theorem sumT_map {L : Int} : ∀ l : List (Int × Int), (l.map fun q => q.1 * L.fdiv q.2).sum = sumT L l
  | [] => rfl
  | q :: l => by
    rw [List.map_cons, List.sum_cons, sumT_map l]
    rfl
theorem fdiv_bt {L : Nat} {j : Int} {k : Nat} (hj : 0 < j) (h : L < 2 ^ k) : Bt ((L : Int).fdiv j) k := by
  unfold Bt
  rw [Int.fdiv_eq_ediv_of_nonneg _ (by omega)]
  obtain ⟨n, rfl⟩ := Int.eq_ofNat_of_zero_le (show 0 ≤ j by omega)
  have : ((L : Int) / (n : Int)) = ((L / n : Nat) : Int) := by simp
  rw [this]
  have := Nat.div_le_self L n
  simp only [Int.natAbs_natCast]
  omega
theorem total_loop {γ : Nat} (R o : Option D) : ∀ (l : List (Int × Int)) (L k : Nat) (x : Option D) (S : Sto), 0 < L → L ≤ 2 ^ k → k + γ * l.length ≤ 13000 → (∀ q ∈ l, 0 < q.2 ∧ Bt q.1 γ ∧ Bt q.2 γ) → γ ≤ 13000 →
    ∃ x', forLoop (fun _ => True) (bName 2) (sAsg 1 (eL dLcm (aCons (eVar 1) (aCons (eB dIx (eVar 2) (eC (.int 1))) aNil)))) (l.map dq) [R, some (.int (L : Int)), x, o] S = .next [R, some (.int (lcmF l L : Nat)), x', o] S
  | [], L, k, x, S, h0, h, hk, hz, hg => ⟨x, by rw [List.map_nil, for_nil trivial]; rfl⟩
  | q :: l, L, k, x, S, h0, h, hk, hz, hg => by
    obtain ⟨h1, -, h2⟩ := hz q (by simp)
    have hp : 0 < q.2.natAbs := by omega
    simp only [List.length_cons, Nat.mul_add] at hk
    have l1 : 0 < Nat.lcm L q.2.natAbs := Nat.lcm_pos h0 hp
    have l2 : Nat.lcm L q.2.natAbs ≤ 2 ^ (k + γ) := by
      refine Nat.le_trans (Nat.le_of_dvd (Nat.mul_pos h0 hp) (Nat.lcm_dvd_mul _ _)) ?_
      rw [Nat.pow_add]
      exact Nat.mul_le_mul h (Nat.le_of_lt h2)
    obtain ⟨x', e⟩ := total_loop R o l _ (k + γ) (some (dq q)) S l1 l2 (by omega) (fun r hr => hz r (by simp [hr])) hg
    refine ⟨x', ?_⟩
    rw [List.map_cons, for_cons (ρ1 := [R, some (.int (L : Int)), some (dq q), o]) (ρ2 := [R, some (.int (Nat.lcm L q.2.natAbs : Nat)), some (dq q), o]) (S2 := S) trivial rfl ?_]
    · exact e
    · have := lcm_int (S := S) (pow_lt h (by omega)) (Nat.lt_trans h2 (Nat.pow_lt_pow_right (by decide) (show γ < 13400 by omega)))
      simp [eVar, eC, eB, eU, eL, boolOf, eTest, eNotT, eAndT, eOrT, eNot, eAnd, eOr, eIf, aNil, aCons, eTup, eLst, eChain, sSkip, sSeq, sAsg, sPar, sExpr, sRet, sRetN, sIf, sBrk, sCont, sSub, eCall, eKw, runDef, begins, dI0, dI, dSub, dLt, dLe, dGt, dGe, dNeg, dInt, dAbs, dGcd, dDiv, dMod, sBind, bTup, bCons, bNil, bName, eMt, iSeq, iRange, ofRes, flowRes, srcOf, this]
theorem total_ok {l : List (Int × Int)} {γ : Nat} (h : ∀ q ∈ l, Qu q) (F : Fr l γ) (hn : l.length ≤ 1000) (hg : γ ≤ 8900) (S : Sto) : Ans (rf_total [.tup (l.map dq)] S) (dq (res l)) S := by
  obtain ⟨G, e⟩ := isrow_ok h hn S
  obtain ⟨x', e1⟩ := total_loop (γ := γ) (some (.tup (l.map dq))) none l 1 0 none (S ++ G) (by decide) (by decide) (by have := F.2; omega) F.1 (by omega)
  obtain ⟨p1, p2⟩ := F.ll
  have e2 : eLc (iSeq (eVar 0)) (bName 2) tTrue (eB dMul (eB dIx (eVar 2) (eC (.int 0))) (eB dDiv (eVar 1) (eB dIx (eVar 2) (eC (.int 1))))) [2] [some (.tup (l.map dq)), some (.int (LL l : Nat)), x', none] (S ++ G) =
      .ok (.lst (S ++ G).length) (S ++ G ++ [l.map fun q => .int (q.1 * (LL l : Int).fdiv q.2)]) := by
    unfold eLc
    simp only [eVar, eC, eB, eU, eL, boolOf, eTest, eNotT, eAndT, eOrT, eNot, eAnd, eOr, eIf, aNil, aCons, eTup, eLst, eChain, sSkip, sSeq, sAsg, sPar, sExpr, sRet, sRetN, sIf, sBrk, sCont, sSub, eCall, eKw, runDef, begins, dI0, dI, dSub, dLt, dLe, dGt, dGe, dNeg, dInt, dAbs, dGcd, dDiv, dMod, sBind, bTup, bCons, bNil, bName, eMt, iSeq, iRange, ofRes, flowRes, srcOf, Res.bind_ok, List.getElem?_cons_zero, wipeE]
    rw [lc_map (fun d => match d with | .tup [.int a, .int b] => .int (a * (LL l : Int).fdiv b) | _ => .non) trivial (l.map dq) [] (by simp; omega)]
    · simp [List.map_map]
      intro a b _
      rfl
    · intro d hd
      obtain ⟨q, hq, rfl⟩ := List.mem_map.mp hd
      obtain ⟨b1, b2, b3⟩ := F.1 q hq
      have c1 : CDivA (LL l : Int) q.2 := divA (by omega) b3 (by omega)
      have c2 : CMulA q.1 ((LL l : Int).fdiv q.2) := mulA b2 (fdiv_bt b1 p2) (by omega)
      refine ⟨_, rfl, rfl, ?_⟩
      simp [eVar, eC, eB, eU, eL, boolOf, eTest, eNotT, eAndT, eOrT, eNot, eAnd, eOr, eIf, aNil, aCons, eTup, eLst, eChain, sSkip, sSeq, sAsg, sPar, sExpr, sRet, sRetN, sIf, sBrk, sCont, sSub, eCall, eKw, runDef, begins, dI0, dI, dSub, dLt, dLe, dGt, dGe, dNeg, dInt, dAbs, dGcd, dDiv, dMod, sBind, bTup, bCons, bNil, bName, eMt, iSeq, iRange, ofRes, flowRes, srcOf, c1, dMul_int c2]
      rfl
  have e3 : dSum [.lst (S ++ G).length] (S ++ G ++ [l.map fun q => .int (q.1 * (LL l : Int).fdiv q.2)]) = some (.int (sumT (LL l) l), S ++ G ++ [l.map fun q => .int (q.1 * (LL l : Int).fdiv q.2)]) := by
    unfold dSum
    have := intsOf_map (fun q : Int × Int => q.1 * (LL l : Int).fdiv q.2) l
    have h2 := sumT_map (L := (LL l : Int)) l
    generalize S ++ G = S1
    simp [this, h2]
  refine ⟨G ++ [l.map fun q => .int (q.1 * (LL l : Int).fdiv q.2)], ?_⟩
  unfold rf_total runDef ev_total
  rw [seq_next (ρ' := [some (.tup (l.map dq)), none, none, none]) (S' := S ++ G) (by simp [eVar, eC, eB, eU, eL, boolOf, eTest, eNotT, eAndT, eOrT, eNot, eAnd, eOr, eIf, aNil, aCons, eTup, eLst, eChain, sSkip, sSeq, sAsg, sPar, sExpr, sRet, sRetN, sIf, sBrk, sCont, sSub, eCall, eKw, runDef, begins, dI0, dI, dSub, dLt, dLe, dGt, dGe, dNeg, dInt, dAbs, dGcd, dDiv, dMod, sBind, bTup, bCons, bNil, bName, eMt, iSeq, iRange, ofRes, flowRes, srcOf, e])]
  rw [seq_next (ρ' := [some (.tup (l.map dq)), some (.int 1), none, none]) (S' := S ++ G) (by simp [eVar, eC, eB, eU, eL, boolOf, eTest, eNotT, eAndT, eOrT, eNot, eAnd, eOr, eIf, aNil, aCons, eTup, eLst, eChain, sSkip, sSeq, sAsg, sPar, sExpr, sRet, sRetN, sIf, sBrk, sCont, sSub, eCall, eKw, runDef, begins, dI0, dI, dSub, dLt, dLe, dGt, dGe, dNeg, dInt, dAbs, dGcd, dDiv, dMod, sBind, bTup, bCons, bNil, bName, eMt, iSeq, iRange, ofRes, flowRes, srcOf])]
  rw [seq_next (ρ' := [some (.tup (l.map dq)), some (.int (LL l : Nat)), x', none]) (S' := S ++ G)]
  · rw [seq_next (ρ' := [some (.tup (l.map dq)), some (.int (LL l : Nat)), x', some (.int (sumT (LL l) l))]) (S' := S ++ G ++ [l.map fun q => .int (q.1 * (LL l : Int).fdiv q.2)])]
    · have := settle_ok (a := sumT (LL l) l) (b := (LL l : Int)) (by omega) (by simpa using p2) (S := S ++ G ++ [l.map fun q => .int (q.1 * (LL l : Int).fdiv q.2)])
      simp only [eVar, eC, eB, eU, eL, boolOf, eTest, eNotT, eAndT, eOrT, eNot, eAnd, eOr, eIf, aNil, aCons, eTup, eLst, eChain, sSkip, sSeq, sAsg, sPar, sExpr, sRet, sRetN, sIf, sBrk, sCont, sSub, eCall, eKw, runDef, begins, dI0, dI, dSub, dLt, dLe, dGt, dGe, dNeg, dInt, dAbs, dGcd, dDiv, dMod, sBind, bTup, bCons, bNil, bName, eMt, iSeq, iRange, ofRes, flowRes, srcOf, List.getElem?_cons_zero, List.getElem?_cons_succ, Res.bind_ok, List.length, if_true, Nat.zero_add, Nat.reduceAdd]
      rw [this]
      simp [res]
    · simp only [sAsg, eL, aCons, aNil]
      rw [e2]
      simp only [Res.bind_ok]
      rw [e3]
      rfl
  · unfold sFor
    simp only [eVar, eC, eB, eU, eL, boolOf, eTest, eNotT, eAndT, eOrT, eNot, eAnd, eOr, eIf, aNil, aCons, eTup, eLst, eChain, sSkip, sSeq, sAsg, sPar, sExpr, sRet, sRetN, sIf, sBrk, sCont, sSub, eCall, eKw, runDef, begins, dI0, dI, dSub, dLt, dLe, dGt, dGe, dNeg, dInt, dAbs, dGcd, dDiv, dMod, sBind, bTup, bCons, bNil, bName, eMt, iSeq, iRange, ofRes, flowRes, srcOf, Res.bind_ok, List.getElem?_cons_zero]
    exact e1
/-! weighed -/
def pr (p : (Int × Int) × (Int × Int)) : Int × Int := (p.1.1 * p.2.1, p.1.2 * p.2.2)
def dp (p : (Int × Int) × (Int × Int)) : D := .tup [dq p.1, dq p.2]
theorem zl_zip : ∀ (l r : List (Int × Int)), zl l r = (l.zip r).map pr
  | [], r => by simp [zl]
  | q :: l, [] => by simp [zl]
  | q :: l, p :: r => by
    have := zl_zip l r
    unfold zl at this ⊢
    simp [this, pr]
theorem zipD_zip : ∀ (l r : List (Int × Int)), zipD (l.map dq) (r.map dq) = (l.zip r).map dp
  | [], r => by simp [zipD]
  | q :: l, [] => by simp [zipD]
  | q :: l, p :: r => by
    have := zipD_zip l r
    simp [zipD, this, dp]
def Pg (ps : List ((Int × Int) × (Int × Int))) (β : Nat) : Prop := ∀ p ∈ ps, (0 < p.1.2 ∧ Bt p.1.1 β ∧ Bt p.1.2 β) ∧ (0 < p.2.2 ∧ Bt p.2.1 β ∧ Bt p.2.2 β)
theorem weighed_loop1 {β : Nat} {st : Sto → Prop} (hst : ∀ S, st S) (R O o : Option D) (hβ : β ≤ 4450) : ∀ (ps : List ((Int × Int) × (Int × Int))) (L k : Nat) (x y : Option D) (S : Sto), 0 < L → L ≤ 2 ^ k → k + (β + β) * ps.length ≤ 13000 → Pg ps β →
    ∃ x' y', forLoop st (bTup 2 (bCons (bName 3) (bCons (bName 4) bNil))) (sAsg 2 (eL dLcm (aCons (eVar 2) (aCons (eB dMul (eB dIx (eVar 3) (eC (.int 1))) (eB dIx (eVar 4) (eC (.int 1)))) aNil)))) (ps.map dp) [R, O, some (.int (L : Int)), x, y, o] S =
      .next [R, O, some (.int (lcmF (ps.map pr) L : Nat)), x', y', o] S
  | [], L, k, x, y, S, h0, h, hk, hz => ⟨x, y, by rw [List.map_nil, for_nil (hst _)]; rfl⟩
  | p :: ps, L, k, x, y, S, h0, h, hk, hz => by
    obtain ⟨⟨h1, a1, a2⟩, h2, b1, b2⟩ := hz p (by simp)
    have m2 : Bt (p.1.2 * p.2.2) (β + β) := a2.mul b2
    have mp : 0 < p.1.2 * p.2.2 := Int.mul_pos h1 h2
    have hp : 0 < (p.1.2 * p.2.2).natAbs := by omega
    simp only [List.length_cons, Nat.mul_add] at hk
    have l1 : 0 < Nat.lcm L (p.1.2 * p.2.2).natAbs := Nat.lcm_pos h0 hp
    have l2 : Nat.lcm L (p.1.2 * p.2.2).natAbs ≤ 2 ^ (k + (β + β)) := by
      refine Nat.le_trans (Nat.le_of_dvd (Nat.mul_pos h0 hp) (Nat.lcm_dvd_mul _ _)) ?_
      rw [Nat.pow_add]
      exact Nat.mul_le_mul h (Nat.le_of_lt m2)
    obtain ⟨x', y', e⟩ := weighed_loop1 hst R O o hβ ps _ (k + (β + β)) (some (dq p.1)) (some (dq p.2)) S l1 l2 (by omega) (fun r hr => hz r (by simp [hr]))
    refine ⟨x', y', ?_⟩
    rw [List.map_cons, for_cons (ρ1 := [R, O, some (.int (L : Int)), some (dq p.1), some (dq p.2), o]) (ρ2 := [R, O, some (.int (Nat.lcm L (p.1.2 * p.2.2).natAbs : Nat)), some (dq p.1), some (dq p.2), o]) (S2 := S) (hst _) rfl ?_]
    · exact e
    · have := lcm_int (S := S) (pow_lt h (by omega)) (Nat.lt_trans m2 (Nat.pow_lt_pow_right (by decide) (show β + β < 13400 by omega)))
      have c := mulA a2 b2 (by omega)
      simp [eVar, eC, eB, eU, eL, boolOf, eTest, eNotT, eAndT, eOrT, eNot, eAnd, eOr, eIf, aNil, aCons, eTup, eLst, eChain, sSkip, sSeq, sAsg, sPar, sExpr, sRet, sRetN, sIf, sBrk, sCont, sSub, eCall, eKw, runDef, begins, dI0, dI, dSub, dLt, dLe, dGt, dGe, dNeg, dInt, dAbs, dGcd, dDiv, dMod, sBind, bTup, bCons, bNil, bName, eMt, iSeq, iRange, ofRes, flowRes, srcOf, dMul_int c, this]
theorem weighed_loop2 {β : Nat} {st : Sto → Prop} (hst : ∀ S, st S) (R O : Option D) (L : Nat) (hL : L < 2 ^ 8990) (hβ : β ≤ 4450) : ∀ (ps : List ((Int × Int) × (Int × Int))) (t : Int) (x y : Option D) (S : Sto), Pg ps β →
    ∃ x' y', forLoop st (bTup 2 (bCons (bName 3) (bCons (bName 4) bNil))) (sAug 5 (dI0 fun i j => .int (i + j)) (eB dMul (eB dMul (eB dIx (eVar 3) (eC (.int 0))) (eB dIx (eVar 4) (eC (.int 0)))) (eB dDiv (eVar 2) (eB dMul (eB dIx (eVar 3) (eC (.int 1))) (eB dIx (eVar 4) (eC (.int 1))))))) (ps.map dp) [R, O, some (.int (L : Int)), x, y, some (.int t)] S =
      .next [R, O, some (.int (L : Int)), x', y', some (.int (t + sumT L (ps.map pr)))] S
  | [], t, x, y, S, hz => ⟨x, y, by rw [List.map_nil, for_nil (hst _)]; simp [sumT]⟩
  | p :: ps, t, x, y, S, hz => by
    obtain ⟨⟨h1, a1, a2⟩, h2, b1, b2⟩ := hz p (by simp)
    have m1 : Bt (p.1.1 * p.2.1) (β + β) := a1.mul b1
    have m2 : Bt (p.1.2 * p.2.2) (β + β) := a2.mul b2
    have mp : 0 < p.1.2 * p.2.2 := Int.mul_pos h1 h2
    obtain ⟨x', y', e⟩ := weighed_loop2 hst R O L hL hβ ps (t + p.1.1 * p.2.1 * (L : Int).fdiv (p.1.2 * p.2.2)) (some (dq p.1)) (some (dq p.2)) S (fun r hr => hz r (by simp [hr]))
    refine ⟨x', y', ?_⟩
    rw [List.map_cons, for_cons (ρ1 := [R, O, some (.int (L : Int)), some (dq p.1), some (dq p.2), some (.int t)]) (ρ2 := [R, O, some (.int (L : Int)), some (dq p.1), some (dq p.2), some (.int (t + p.1.1 * p.2.1 * (L : Int).fdiv (p.1.2 * p.2.2)))]) (S2 := S) (hst _) rfl ?_]
    · rw [e, List.map_cons, sumT, ← Int.add_assoc]
      rfl
    · have c1 := mulA a1 b1 (by omega)
      have c2 := mulA a2 b2 (by omega)
      have c3 : CDivA (L : Int) (p.1.2 * p.2.2) := divA (by omega) m2 (by omega)
      have c4 : CMulA (p.1.1 * p.2.1) ((L : Int).fdiv (p.1.2 * p.2.2)) := mulA m1 (fdiv_bt mp hL) (by omega)
      simp [eVar, eC, eB, eU, eL, boolOf, eTest, eNotT, eAndT, eOrT, eNot, eAnd, eOr, eIf, aNil, aCons, eTup, eLst, eChain, sSkip, sSeq, sAsg, sPar, sExpr, sRet, sRetN, sIf, sBrk, sCont, sSub, eCall, eKw, runDef, begins, dI0, dI, dSub, dLt, dLe, dGt, dGe, dNeg, dInt, dAbs, dGcd, dDiv, dMod, sBind, bTup, bCons, bNil, bName, eMt, iSeq, iRange, ofRes, flowRes, srcOf, sAug, dMul_int c1, dMul_int c2, c3, dMul_int c4]
theorem pg_of {β n : Nat} {l r : List (Int × Int)} (h : Rw β n l) (h' : Rw β n r) : Pg (l.zip r) β := fun p hp => by
  obtain ⟨m1, m2⟩ := List.of_mem_zip (a := p.1) (b := p.2) hp
  exact ⟨⟨by have := (h.qu _ m1).1; omega, h.bt _ m1⟩, by have := (h'.qu _ m2).1; omega, h'.bt _ m2⟩
theorem weighed_ok {β n : Nat} {l r : List (Int × Int)} (h : Rw β n l) (h' : Rw β n r) (hb : β * n ≤ 4450) (hβ : β ≤ 4450) (hn : n ≤ 1000) (S : Sto) : Ans (rf_weighed [.tup (l.map dq), .tup (r.map dq)] S) (dq (res (zl l r))) S := by
  obtain ⟨G, e⟩ := isrow_ok h.qu (by rw [h.len]; exact hn) S
  obtain ⟨G', e'⟩ := isrow_ok h'.qu (by rw [h'.len]; exact hn) (S ++ G)
  have F := h.zz h' hb
  obtain ⟨p1, p2⟩ := F.ll
  have pg := pg_of h h'
  have hz : (l.zip r).length = n := by simp [h.len, h'.len]
  obtain ⟨x1, y1, e1⟩ := weighed_loop1 (st := fun S' => (fun _ => True) S' ∧ (fun _ => True) S') (fun _ => ⟨trivial, trivial⟩) (some (.tup (l.map dq))) (some (.tup (r.map dq))) none hβ (l.zip r) 1 0 none none (S ++ G ++ G') (by decide) (by decide) (by rw [hz, Nat.add_mul]; omega) pg
  obtain ⟨x2, y2, e2⟩ := weighed_loop2 (st := fun S' => (fun _ => True) S' ∧ (fun _ => True) S') (fun _ => ⟨trivial, trivial⟩) (some (.tup (l.map dq))) (some (.tup (r.map dq))) (LL (zl l r)) p2 hβ (l.zip r) 0 x1 y1 (S ++ G ++ G') pg
  refine ⟨G ++ G', ?_⟩
  have hl : r.length = l.length := by rw [h.len, h'.len]
  have eLL : lcmF ((l.zip r).map pr) 1 = LL (zl l r) := by rw [← zl_zip]; rfl
  rw [eLL] at e1
  rw [← zl_zip, Int.zero_add] at e2
  unfold rf_weighed runDef ev_weighed
  rw [seq_next (ρ' := [some (.tup (l.map dq)), some (.tup (r.map dq)), none, none, none, none]) (S' := S ++ G) (by simp [eVar, eC, eB, eU, eL, boolOf, eTest, eNotT, eAndT, eOrT, eNot, eAnd, eOr, eIf, aNil, aCons, eTup, eLst, eChain, sSkip, sSeq, sAsg, sPar, sExpr, sRet, sRetN, sIf, sBrk, sCont, sSub, eCall, eKw, runDef, begins, dI0, dI, dSub, dLt, dLe, dGt, dGe, dNeg, dInt, dAbs, dGcd, dDiv, dMod, sBind, bTup, bCons, bNil, bName, eMt, iSeq, iRange, ofRes, flowRes, srcOf, e])]
  rw [seq_next (ρ' := [some (.tup (l.map dq)), some (.tup (r.map dq)), none, none, none, none]) (S' := S ++ G ++ G') (by simp at e'; simp [eVar, eC, eB, eU, eL, boolOf, eTest, eNotT, eAndT, eOrT, eNot, eAnd, eOr, eIf, aNil, aCons, eTup, eLst, eChain, sSkip, sSeq, sAsg, sPar, sExpr, sRet, sRetN, sIf, sBrk, sCont, sSub, eCall, eKw, runDef, begins, dI0, dI, dSub, dLt, dLe, dGt, dGe, dNeg, dInt, dAbs, dGcd, dDiv, dMod, sBind, bTup, bCons, bNil, bName, eMt, iSeq, iRange, ofRes, flowRes, srcOf, e', hl])]
  rw [seq_next (ρ' := [some (.tup (l.map dq)), some (.tup (r.map dq)), some (.int 1), none, none, none]) (S' := S ++ G ++ G') (by simp [eVar, eC, eB, eU, eL, boolOf, eTest, eNotT, eAndT, eOrT, eNot, eAnd, eOr, eIf, aNil, aCons, eTup, eLst, eChain, sSkip, sSeq, sAsg, sPar, sExpr, sRet, sRetN, sIf, sBrk, sCont, sSub, eCall, eKw, runDef, begins, dI0, dI, dSub, dLt, dLe, dGt, dGe, dNeg, dInt, dAbs, dGcd, dDiv, dMod, sBind, bTup, bCons, bNil, bName, eMt, iSeq, iRange, ofRes, flowRes, srcOf])]
  rw [seq_next (ρ' := [some (.tup (l.map dq)), some (.tup (r.map dq)), some (.int (LL (zl l r) : Nat)), x1, y1, none]) (S' := S ++ G ++ G')]
  · rw [seq_next (ρ' := [some (.tup (l.map dq)), some (.tup (r.map dq)), some (.int (LL (zl l r) : Nat)), x1, y1, some (.int 0)]) (S' := S ++ G ++ G') (by simp [eVar, eC, eB, eU, eL, boolOf, eTest, eNotT, eAndT, eOrT, eNot, eAnd, eOr, eIf, aNil, aCons, eTup, eLst, eChain, sSkip, sSeq, sAsg, sPar, sExpr, sRet, sRetN, sIf, sBrk, sCont, sSub, eCall, eKw, runDef, begins, dI0, dI, dSub, dLt, dLe, dGt, dGe, dNeg, dInt, dAbs, dGcd, dDiv, dMod, sBind, bTup, bCons, bNil, bName, eMt, iSeq, iRange, ofRes, flowRes, srcOf])]
    rw [seq_next (ρ' := [some (.tup (l.map dq)), some (.tup (r.map dq)), some (.int (LL (zl l r) : Nat)), x2, y2, some (.int (sumT (LL (zl l r)) (zl l r)))]) (S' := S ++ G ++ G')]
    · have := settle_ok (a := sumT (LL (zl l r)) (zl l r)) (b := (LL (zl l r) : Int)) (by omega) (by simpa using p2) (S := S ++ G ++ G')
      simp only [eVar, eC, eB, eU, eL, boolOf, eTest, eNotT, eAndT, eOrT, eNot, eAnd, eOr, eIf, aNil, aCons, eTup, eLst, eChain, sSkip, sSeq, sAsg, sPar, sExpr, sRet, sRetN, sIf, sBrk, sCont, sSub, eCall, eKw, runDef, begins, dI0, dI, dSub, dLt, dLe, dGt, dGe, dNeg, dInt, dAbs, dGcd, dDiv, dMod, sBind, bTup, bCons, bNil, bName, eMt, iSeq, iRange, ofRes, flowRes, srcOf, List.getElem?_cons_zero, List.getElem?_cons_succ, Res.bind_ok, List.length, if_true, Nat.zero_add, Nat.reduceAdd]
      rw [this]
      simp [res]
    · unfold sFor
      simp only [eVar, eC, eB, eU, eL, boolOf, eTest, eNotT, eAndT, eOrT, eNot, eAnd, eOr, eIf, aNil, aCons, eTup, eLst, eChain, sSkip, sSeq, sAsg, sPar, sExpr, sRet, sRetN, sIf, sBrk, sCont, sSub, eCall, eKw, runDef, begins, dI0, dI, dSub, dLt, dLe, dGt, dGe, dNeg, dInt, dAbs, dGcd, dDiv, dMod, sBind, bTup, bCons, bNil, bName, eMt, iSeq, iRange, ofRes, flowRes, srcOf, zipS, isTup, Res.bind_ok, List.getElem?_cons_zero, List.getElem?_cons_succ, if_true]
      rw [zipD_zip]
      exact e2
  · unfold sFor
    simp only [eVar, eC, eB, eU, eL, boolOf, eTest, eNotT, eAndT, eOrT, eNot, eAnd, eOr, eIf, aNil, aCons, eTup, eLst, eChain, sSkip, sSeq, sAsg, sPar, sExpr, sRet, sRetN, sIf, sBrk, sCont, sSub, eCall, eKw, runDef, begins, dI0, dI, dSub, dLt, dLe, dGt, dGe, dNeg, dInt, dAbs, dGcd, dDiv, dMod, sBind, bTup, bCons, bNil, bName, eMt, iSeq, iRange, ofRes, flowRes, srcOf, zipS, isTup, Res.bind_ok, List.getElem?_cons_zero, List.getElem?_cons_succ, if_true]
    rw [zipD_zip]
    exact e1
end LawM
end
section
set_option Elab.async false
set_option linter.all false
set_option maxRecDepth 100000
set_option maxHeartbeats 1000000
/-! P5: least, greatest, the law's asking, sums. -/
namespace LawM
open PySem PySem.Spec PyProof.Rows L2 MP
theorem for_idx {st : Sto → Prop} {b : D → MP.Env → Option MP.Env} {body : Es} (I : Nat → MP.Env → Sto → Prop) (hst : ∀ i ρ S, I i ρ S → st S) : ∀ (ys : List D) (xs : List D) (i : Nat) (ρ : MP.Env) (S : Sto), xs.drop i = ys → i ≤ xs.length →
    (∀ i x ρ S, xs[i]? = some x → I i ρ S → ∃ ρ1 ρ2 S2, b x ρ = some ρ1 ∧ body ρ1 S = .next ρ2 S2 ∧ I (i + 1) ρ2 S2) → I i ρ S → ∃ ρ' S', forLoop st b body ys ρ S = .next ρ' S' ∧ I xs.length ρ' S'
  | [], xs, i, ρ, S, hd, hi, step, h => by
    have : xs.length ≤ i := List.drop_eq_nil_iff.mp hd
    have e : i = xs.length := by omega
    subst e
    exact ⟨ρ, S, for_nil (hst _ _ _ h), h⟩
  | y :: ys, xs, i, ρ, S, hd, hi, step, h => by
    have hlt : i < xs.length := by
      rcases Nat.lt_or_ge i xs.length with q | q
      · exact q
      · rw [List.drop_eq_nil_iff.mpr q] at hd
        cases hd
    have hx : xs[i]? = some y := by
      have := congrArg (fun l => l[0]?) hd
      simpa [List.getElem?_drop] using this
    obtain ⟨ρ1, ρ2, S2, h1, h2, h3⟩ := step i y ρ S hx h
    have hd2 : xs.drop (i + 1) = ys := by
      rw [← List.drop_drop, hd]
      rfl
    obtain ⟨ρ', S', h4, h5⟩ := for_idx I hst ys xs (i + 1) ρ2 S2 hd2 (by omega) step h3
    exact ⟨ρ', S', by rw [for_cons (hst _ _ _ h) h1 h2]; exact h4, h5⟩
theorem for_all {st : Sto → Prop} {b : D → MP.Env → Option MP.Env} {body : Es} (I : Nat → MP.Env → Sto → Prop) (hst : ∀ i ρ S, I i ρ S → st S) (xs : List D) (ρ : MP.Env) (S : Sto)
    (step : ∀ i x ρ S, xs[i]? = some x → I i ρ S → ∃ ρ1 ρ2 S2, b x ρ = some ρ1 ∧ body ρ1 S = .next ρ2 S2 ∧ I (i + 1) ρ2 S2) (h : I 0 ρ S) : ∃ ρ' S', forLoop st b body xs ρ S = .next ρ' S' ∧ I xs.length ρ' S' :=
  for_idx I hst xs xs 0 ρ S rfl (by omega) step h
theorem rng_ok {n : Nat} (h : n ≤ 1000000) {S : Sto} : rng1 [.int (n : Int)] S = .ok ⟨rngL 0 n, fun _ => True⟩ S := by
  unfold rng1
  have : (n : Int) < 2 ^ 62 ∧ -(2 ^ 62) ≤ (n : Int) := by omega
  show (if (n : Int) < 2 ^ 62 ∧ -(2 ^ 62) ≤ (n : Int) then _ else _) = _
  rw [if_pos this]
  simp
theorem rng_at {n i : Nat} {x : D} (h : (rngL 0 n)[i]? = some x) : i < n ∧ x = .int (i : Int) := by
  obtain ⟨a, b⟩ := rngL_get h
  exact ⟨a, by rw [b, Int.zero_add]⟩
/-! least and greatest -/
def le (a b : Int × Int) : Prop := a.1 * b.2 ≤ b.1 * a.2
theorem le_trans' {a b c : Int × Int} (ha : 0 < a.2) (hb : 0 < b.2) (hc : 0 < c.2) (h : le a b) (k : le b c) : le a c := by
  unfold le at *
  have h1 : a.1 * b.2 * c.2 ≤ b.1 * a.2 * c.2 := Int.mul_le_mul_of_nonneg_right h (by omega)
  have h2 : b.1 * c.2 * a.2 ≤ c.1 * b.2 * a.2 := Int.mul_le_mul_of_nonneg_right k (by omega)
  have e1 : a.1 * b.2 * c.2 = (a.1 * c.2) * b.2 := by rw [Int.mul_assoc, Int.mul_comm b.2, ← Int.mul_assoc]
  have e2 : b.1 * a.2 * c.2 = b.1 * c.2 * a.2 := by rw [Int.mul_assoc, Int.mul_comm a.2, ← Int.mul_assoc]
  have e3 : c.1 * b.2 * a.2 = (c.1 * a.2) * b.2 := by rw [Int.mul_assoc, Int.mul_comm b.2, ← Int.mul_assoc]
  rw [e1, e2] at h1
  rw [e3] at h2
  exact Int.le_of_mul_le_mul_right (Int.le_trans h1 h2) hb
def minF : List (Int × Int) → Int × Int → Int × Int
  | [], m => m
  | q :: l, m => minF l (if q.1 * m.2 < m.1 * q.2 then q else m)
def maxF : List (Int × Int) → Int × Int → Int × Int
  | [], m => m
  | q :: l, m => maxF l (if m.1 * q.2 < q.1 * m.2 then q else m)
theorem minF_spec : ∀ (l : List (Int × Int)) (m : Int × Int), 0 < m.2 → (∀ q ∈ l, 0 < q.2) → (minF l m = m ∨ minF l m ∈ l) ∧ le (minF l m) m ∧ ∀ q ∈ l, le (minF l m) q
  | [], m, h, _ => ⟨.inl rfl, Int.le_refl _, by simp⟩
  | q :: l, m, h, hl => by
    have hq := hl q (by simp)
    unfold minF
    by_cases hc : q.1 * m.2 < m.1 * q.2
    · rw [if_pos hc]
      obtain ⟨a, b, c⟩ := minF_spec l q hq fun r hr => hl r (by simp [hr])
      have hp : 0 < (minF l q).2 := by
        rcases a with e | e
        · rw [e]; exact hq
        · exact hl _ (by simp [e])
      refine ⟨.inr (by rcases a with e | e <;> simp [e]), le_trans' hp hq h b (Int.le_of_lt hc), fun r hr => ?_⟩
      rcases List.mem_cons.mp hr with rfl | hr
      · exact b
      · exact c r hr
    · rw [if_neg hc]
      obtain ⟨a, b, c⟩ := minF_spec l m h fun r hr => hl r (by simp [hr])
      have hp : 0 < (minF l m).2 := by
        rcases a with e | e
        · rw [e]; exact h
        · exact hl _ (by simp [e])
      refine ⟨a.imp id fun e => by simp [e], b, fun r hr => ?_⟩
      rcases List.mem_cons.mp hr with rfl | hr
      · exact le_trans' hp h hq b (Int.not_lt.mp hc)
      · exact c r hr
theorem maxF_spec : ∀ (l : List (Int × Int)) (m : Int × Int), 0 < m.2 → (∀ q ∈ l, 0 < q.2) → (maxF l m = m ∨ maxF l m ∈ l) ∧ le m (maxF l m) ∧ ∀ q ∈ l, le q (maxF l m)
  | [], m, h, _ => ⟨.inl rfl, Int.le_refl _, by simp⟩
  | q :: l, m, h, hl => by
    have hq := hl q (by simp)
    unfold maxF
    by_cases hc : m.1 * q.2 < q.1 * m.2
    · rw [if_pos hc]
      obtain ⟨a, b, c⟩ := maxF_spec l q hq fun r hr => hl r (by simp [hr])
      have hp : 0 < (maxF l q).2 := by
        rcases a with e | e
        · rw [e]; exact hq
        · exact hl _ (by simp [e])
      refine ⟨.inr (by rcases a with e | e <;> simp [e]), le_trans' h hq hp (Int.le_of_lt hc) b, fun r hr => ?_⟩
      rcases List.mem_cons.mp hr with rfl | hr
      · exact b
      · exact c r hr
    · rw [if_neg hc]
      obtain ⟨a, b, c⟩ := maxF_spec l m h fun r hr => hl r (by simp [hr])
      have hp : 0 < (maxF l m).2 := by
        rcases a with e | e
        · rw [e]; exact h
        · exact hl _ (by simp [e])
      refine ⟨a.imp id fun e => by simp [e], b, fun r hr => ?_⟩
      rcases List.mem_cons.mp hr with rfl | hr
      · exact le_trans' hq h hp (Int.not_lt.mp hc) b
      · exact c r hr
def Bts (l : List (Int × Int)) (β : Nat) : Prop := ∀ q ∈ l, Bt q.1 β ∧ Bt q.2 β
theorem least_loop {β : Nat} (hβ : β ≤ 4450) (R : Option D) : ∀ (l : List (Int × Int)) (m : Int × Int) (x : Option D) (S : Sto), Bts (m :: l) β →
    ∃ x', forLoop (fun _ => True) (bName 2) (sIf (eTest (eB dLt (eB dMul (eB dIx (eVar 2) (eC (.int 0))) (eB dIx (eVar 1) (eC (.int 1)))) (eB dMul (eB dIx (eVar 1) (eC (.int 0))) (eB dIx (eVar 2) (eC (.int 1)))))) (sAsg 1 (eVar 2)) sSkip) (l.map dq) [R, some (dq m), x] S = .next [R, some (dq (minF l m)), x'] S
  | [], m, x, S, h => ⟨x, by rw [List.map_nil, for_nil trivial]; rfl⟩
  | q :: l, m, x, S, h => by
    have hm := h m (by simp)
    have hq := h q (by simp)
    have c1 := mulA hq.1 hm.2 (by omega)
    have c2 := mulA hm.1 hq.2 (by omega)
    obtain ⟨x', e⟩ := least_loop hβ R l (if q.1 * m.2 < m.1 * q.2 then q else m) (some (dq q)) S fun r hr => by
      rcases List.mem_cons.mp hr with rfl | hr
      · split
        · exact hq
        · exact hm
      · exact h r (by simp [hr])
    refine ⟨x', ?_⟩
    rw [List.map_cons, for_cons (ρ1 := [R, some (dq m), some (dq q)]) (ρ2 := [R, some (dq (if q.1 * m.2 < m.1 * q.2 then q else m)), some (dq q)]) (S2 := S) trivial rfl ?_]
    · exact e
    · by_cases hc : q.1 * m.2 < m.1 * q.2
      · simp [eVar, eC, eB, eU, eL, boolOf, eTest, eNotT, eAndT, eOrT, eNot, eAnd, eOr, eIf, aNil, aCons, eTup, eLst, eChain, sSkip, sSeq, sAsg, sPar, sExpr, sRet, sRetN, sIf, sBrk, sCont, sSub, eCall, eKw, runDef, begins, dI0, dI, dSub, dLt, dLe, dGt, dGe, dNeg, dInt, dAbs, dGcd, dDiv, dMod, sBind, bTup, bCons, bNil, bName, eMt, iSeq, iRange, ofRes, flowRes, srcOf, dMul_int c1, dMul_int c2, hc]
      · simp [eVar, eC, eB, eU, eL, boolOf, eTest, eNotT, eAndT, eOrT, eNot, eAnd, eOr, eIf, aNil, aCons, eTup, eLst, eChain, sSkip, sSeq, sAsg, sPar, sExpr, sRet, sRetN, sIf, sBrk, sCont, sSub, eCall, eKw, runDef, begins, dI0, dI, dSub, dLt, dLe, dGt, dGe, dNeg, dInt, dAbs, dGcd, dDiv, dMod, sBind, bTup, bCons, bNil, bName, eMt, iSeq, iRange, ofRes, flowRes, srcOf, dMul_int c1, dMul_int c2, hc]
theorem greatest_loop {β : Nat} (hβ : β ≤ 4450) (R : Option D) : ∀ (l : List (Int × Int)) (m : Int × Int) (x : Option D) (S : Sto), Bts (m :: l) β →
    ∃ x', forLoop (fun _ => True) (bName 2) (sIf (eTest (eB dGt (eB dMul (eB dIx (eVar 2) (eC (.int 0))) (eB dIx (eVar 1) (eC (.int 1)))) (eB dMul (eB dIx (eVar 1) (eC (.int 0))) (eB dIx (eVar 2) (eC (.int 1)))))) (sAsg 1 (eVar 2)) sSkip) (l.map dq) [R, some (dq m), x] S = .next [R, some (dq (maxF l m)), x'] S
  | [], m, x, S, h => ⟨x, by rw [List.map_nil, for_nil trivial]; rfl⟩
  | q :: l, m, x, S, h => by
    have hm := h m (by simp)
    have hq := h q (by simp)
    have c1 := mulA hq.1 hm.2 (by omega)
    have c2 := mulA hm.1 hq.2 (by omega)
    obtain ⟨x', e⟩ := greatest_loop hβ R l (if m.1 * q.2 < q.1 * m.2 then q else m) (some (dq q)) S fun r hr => by
      rcases List.mem_cons.mp hr with rfl | hr
      · split
        · exact hq
        · exact hm
      · exact h r (by simp [hr])
    refine ⟨x', ?_⟩
    rw [List.map_cons, for_cons (ρ1 := [R, some (dq m), some (dq q)]) (ρ2 := [R, some (dq (if m.1 * q.2 < q.1 * m.2 then q else m)), some (dq q)]) (S2 := S) trivial rfl ?_]
    · exact e
    · by_cases hc : m.1 * q.2 < q.1 * m.2
      · simp [eVar, eC, eB, eU, eL, boolOf, eTest, eNotT, eAndT, eOrT, eNot, eAnd, eOr, eIf, aNil, aCons, eTup, eLst, eChain, sSkip, sSeq, sAsg, sPar, sExpr, sRet, sRetN, sIf, sBrk, sCont, sSub, eCall, eKw, runDef, begins, dI0, dI, dSub, dLt, dLe, dGt, dGe, dNeg, dInt, dAbs, dGcd, dDiv, dMod, sBind, bTup, bCons, bNil, bName, eMt, iSeq, iRange, ofRes, flowRes, srcOf, dMul_int c1, dMul_int c2, hc]
      · simp [eVar, eC, eB, eU, eL, boolOf, eTest, eNotT, eAndT, eOrT, eNot, eAnd, eOr, eIf, aNil, aCons, eTup, eLst, eChain, sSkip, sSeq, sAsg, sPar, sExpr, sRet, sRetN, sIf, sBrk, sCont, sSub, eCall, eKw, runDef, begins, dI0, dI, dSub, dLt, dLe, dGt, dGe, dNeg, dInt, dAbs, dGcd, dDiv, dMod, sBind, bTup, bCons, bNil, bName, eMt, iSeq, iRange, ofRes, flowRes, srcOf, dMul_int c1, dMul_int c2, hc]
theorem least_ok {β : Nat} {m : Int × Int} {l : List (Int × Int)} (hq : ∀ q ∈ m :: l, Qu q) (hb : Bts (m :: l) β) (hβ : β ≤ 4450) (hn : (m :: l).length ≤ 1000) (S : Sto) : Ans (rf_least_of [.tup ((m :: l).map dq)] S) (dq (minF (m :: l) m)) S := by
  obtain ⟨G, e⟩ := need_ok (xs := (m :: l).map dq) (fun S => isrow_ok hq hn S) (by simp) S
  obtain ⟨x', e1⟩ := least_loop hβ (some (.tup ((m :: l).map dq))) (m :: l) m none (S ++ G) fun r hr => hb r (by
    rcases List.mem_cons.mp hr with h0 | h0
    · rw [h0]; simp
    · exact h0)
  refine ⟨G, ?_⟩
  unfold rf_least_of runDef ev_least_of
  rw [seq_next (ρ' := [some (.tup ((m :: l).map dq)), none, none]) (S' := S ++ G) (by simp only [eVar, eC, eB, eU, eL, boolOf, eTest, eNotT, eAndT, eOrT, eNot, eAnd, eOr, eIf, aNil, aCons, eTup, eLst, eChain, sSkip, sSeq, sAsg, sPar, sExpr, sRet, sRetN, sIf, sBrk, sCont, sSub, eCall, eKw, runDef, begins, dI0, dI, dSub, dLt, dLe, dGt, dGe, dNeg, dInt, dAbs, dGcd, dDiv, dMod, sBind, bTup, bCons, bNil, bName, eMt, iSeq, iRange, ofRes, flowRes, srcOf, List.map, List.length, List.replicate, List.getElem?_cons_zero, List.cons_append, List.nil_append, Res.bind_ok, if_true, Nat.zero_add, Nat.reduceAdd, Nat.reduceSub] at e ⊢; rw [e])]
  rw [seq_next (ρ' := [some (.tup ((m :: l).map dq)), some (dq m), none]) (S' := S ++ G) (by simp [eVar, eC, eB, eU, eL, boolOf, eTest, eNotT, eAndT, eOrT, eNot, eAnd, eOr, eIf, aNil, aCons, eTup, eLst, eChain, sSkip, sSeq, sAsg, sPar, sExpr, sRet, sRetN, sIf, sBrk, sCont, sSub, eCall, eKw, runDef, begins, dI0, dI, dSub, dLt, dLe, dGt, dGe, dNeg, dInt, dAbs, dGcd, dDiv, dMod, sBind, bTup, bCons, bNil, bName, eMt, iSeq, iRange, ofRes, flowRes, srcOf])]
  rw [seq_next (ρ' := [some (.tup ((m :: l).map dq)), some (dq (minF (m :: l) m)), x']) (S' := S ++ G)]
  · simp [eVar, eC, eB, eU, eL, boolOf, eTest, eNotT, eAndT, eOrT, eNot, eAnd, eOr, eIf, aNil, aCons, eTup, eLst, eChain, sSkip, sSeq, sAsg, sPar, sExpr, sRet, sRetN, sIf, sBrk, sCont, sSub, eCall, eKw, runDef, begins, dI0, dI, dSub, dLt, dLe, dGt, dGe, dNeg, dInt, dAbs, dGcd, dDiv, dMod, sBind, bTup, bCons, bNil, bName, eMt, iSeq, iRange, ofRes, flowRes, srcOf]
  · unfold sFor
    simp only [eVar, eC, eB, eU, eL, boolOf, eTest, eNotT, eAndT, eOrT, eNot, eAnd, eOr, eIf, aNil, aCons, eTup, eLst, eChain, sSkip, sSeq, sAsg, sPar, sExpr, sRet, sRetN, sIf, sBrk, sCont, sSub, eCall, eKw, runDef, begins, dI0, dI, dSub, dLt, dLe, dGt, dGe, dNeg, dInt, dAbs, dGcd, dDiv, dMod, sBind, bTup, bCons, bNil, bName, eMt, iSeq, iRange, ofRes, flowRes, srcOf, Res.bind_ok, List.getElem?_cons_zero]
    exact e1
theorem greatest_ok {β : Nat} {m : Int × Int} {l : List (Int × Int)} (hq : ∀ q ∈ m :: l, Qu q) (hb : Bts (m :: l) β) (hβ : β ≤ 4450) (hn : (m :: l).length ≤ 1000) (S : Sto) : Ans (rf_greatest_of [.tup ((m :: l).map dq)] S) (dq (maxF (m :: l) m)) S := by
  obtain ⟨G, e⟩ := need_ok (xs := (m :: l).map dq) (fun S => isrow_ok hq hn S) (by simp) S
  obtain ⟨x', e1⟩ := greatest_loop hβ (some (.tup ((m :: l).map dq))) (m :: l) m none (S ++ G) fun r hr => hb r (by
    rcases List.mem_cons.mp hr with h0 | h0
    · rw [h0]; simp
    · exact h0)
  refine ⟨G, ?_⟩
  unfold rf_greatest_of runDef ev_greatest_of
  rw [seq_next (ρ' := [some (.tup ((m :: l).map dq)), none, none]) (S' := S ++ G) (by simp only [eVar, eC, eB, eU, eL, boolOf, eTest, eNotT, eAndT, eOrT, eNot, eAnd, eOr, eIf, aNil, aCons, eTup, eLst, eChain, sSkip, sSeq, sAsg, sPar, sExpr, sRet, sRetN, sIf, sBrk, sCont, sSub, eCall, eKw, runDef, begins, dI0, dI, dSub, dLt, dLe, dGt, dGe, dNeg, dInt, dAbs, dGcd, dDiv, dMod, sBind, bTup, bCons, bNil, bName, eMt, iSeq, iRange, ofRes, flowRes, srcOf, List.map, List.length, List.replicate, List.getElem?_cons_zero, List.cons_append, List.nil_append, Res.bind_ok, if_true, Nat.zero_add, Nat.reduceAdd, Nat.reduceSub] at e ⊢; rw [e])]
  rw [seq_next (ρ' := [some (.tup ((m :: l).map dq)), some (dq m), none]) (S' := S ++ G) (by simp [eVar, eC, eB, eU, eL, boolOf, eTest, eNotT, eAndT, eOrT, eNot, eAnd, eOr, eIf, aNil, aCons, eTup, eLst, eChain, sSkip, sSeq, sAsg, sPar, sExpr, sRet, sRetN, sIf, sBrk, sCont, sSub, eCall, eKw, runDef, begins, dI0, dI, dSub, dLt, dLe, dGt, dGe, dNeg, dInt, dAbs, dGcd, dDiv, dMod, sBind, bTup, bCons, bNil, bName, eMt, iSeq, iRange, ofRes, flowRes, srcOf])]
  rw [seq_next (ρ' := [some (.tup ((m :: l).map dq)), some (dq (maxF (m :: l) m)), x']) (S' := S ++ G)]
  · simp [eVar, eC, eB, eU, eL, boolOf, eTest, eNotT, eAndT, eOrT, eNot, eAnd, eOr, eIf, aNil, aCons, eTup, eLst, eChain, sSkip, sSeq, sAsg, sPar, sExpr, sRet, sRetN, sIf, sBrk, sCont, sSub, eCall, eKw, runDef, begins, dI0, dI, dSub, dLt, dLe, dGt, dGe, dNeg, dInt, dAbs, dGcd, dDiv, dMod, sBind, bTup, bCons, bNil, bName, eMt, iSeq, iRange, ofRes, flowRes, srcOf]
  · unfold sFor
    simp only [eVar, eC, eB, eU, eL, boolOf, eTest, eNotT, eAndT, eOrT, eNot, eAnd, eOr, eIf, aNil, aCons, eTup, eLst, eChain, sSkip, sSeq, sAsg, sPar, sExpr, sRet, sRetN, sIf, sBrk, sCont, sSub, eCall, eKw, runDef, begins, dI0, dI, dSub, dLt, dLe, dGt, dGe, dNeg, dInt, dAbs, dGcd, dDiv, dMod, sBind, bTup, bCons, bNil, bName, eMt, iSeq, iRange, ofRes, flowRes, srcOf, Res.bind_ok, List.getElem?_cons_zero]
    exact e1
/-! asking -/
def told (d : D) : D := .tup [.str "told", d]
def refused (w : Str) : D := .tup [.str "refused", .str w]
theorem ask0 {L R d : D} {b : Bool} {S : Sto} (h : Ans (rf_total [L] S) d S) : Ans (rf__law_ask [.int 0, L, R, .bl b] S) (told d) S := by
  obtain ⟨G, e⟩ := h
  refine ⟨G, ?_⟩
  cases b <;> simp [rf__law_ask, ev__law_ask, eVar, eC, eB, eU, eL, boolOf, eTest, eNotT, eAndT, eOrT, eNot, eAnd, eOr, eIf, aNil, aCons, eTup, eLst, eChain, sSkip, sSeq, sAsg, sPar, sExpr, sRet, sRetN, sIf, sBrk, sCont, sSub, eCall, eKw, runDef, begins, dI0, dI, dSub, dLt, dLe, dGt, dGe, dNeg, dInt, dAbs, dGcd, dDiv, dMod, sBind, bTup, bCons, bNil, bName, eMt, iSeq, iRange, ofRes, flowRes, srcOf, sTryAs, e, dTup_ok, told, pm01]
theorem ask1 {L R d : D} {b : Bool} {S : Sto} (h : Ans (rf_weighed [L, R] S) d S) : Ans (rf__law_ask [.int 1, L, R, .bl b] S) (told d) S := by
  obtain ⟨G, e⟩ := h
  refine ⟨G, ?_⟩
  cases b <;> simp [rf__law_ask, ev__law_ask, eVar, eC, eB, eU, eL, boolOf, eTest, eNotT, eAndT, eOrT, eNot, eAnd, eOr, eIf, aNil, aCons, eTup, eLst, eChain, sSkip, sSeq, sAsg, sPar, sExpr, sRet, sRetN, sIf, sBrk, sCont, sSub, eCall, eKw, runDef, begins, dI0, dI, dSub, dLt, dLe, dGt, dGe, dNeg, dInt, dAbs, dGcd, dDiv, dMod, sBind, bTup, bCons, bNil, bName, eMt, iSeq, iRange, ofRes, flowRes, srcOf, sTryAs, e, dTup_ok, told, pm10]
theorem ask2 {L R d : D} {b : Bool} {S : Sto} (h : Ans (rf_least_of [L] S) d S) : Ans (rf__law_ask [.int 2, L, R, .bl b] S) (told d) S := by
  obtain ⟨G, e⟩ := h
  refine ⟨G, ?_⟩
  cases b <;> simp [rf__law_ask, ev__law_ask, eVar, eC, eB, eU, eL, boolOf, eTest, eNotT, eAndT, eOrT, eNot, eAnd, eOr, eIf, aNil, aCons, eTup, eLst, eChain, sSkip, sSeq, sAsg, sPar, sExpr, sRet, sRetN, sIf, sBrk, sCont, sSub, eCall, eKw, runDef, begins, dI0, dI, dSub, dLt, dLe, dGt, dGe, dNeg, dInt, dAbs, dGcd, dDiv, dMod, sBind, bTup, bCons, bNil, bName, eMt, iSeq, iRange, ofRes, flowRes, srcOf, sTryAs, e, dTup_ok, told, pm01]
theorem ask3 {L R d : D} {b : Bool} {S : Sto} (h : Ans (rf_greatest_of [L] S) d S) : Ans (rf__law_ask [.int 3, L, R, .bl b] S) (told d) S := by
  obtain ⟨G, e⟩ := h
  refine ⟨G, ?_⟩
  cases b <;> simp [rf__law_ask, ev__law_ask, eVar, eC, eB, eU, eL, boolOf, eTest, eNotT, eAndT, eOrT, eNot, eAnd, eOr, eIf, aNil, aCons, eTup, eLst, eChain, sSkip, sSeq, sAsg, sPar, sExpr, sRet, sRetN, sIf, sBrk, sCont, sSub, eCall, eKw, runDef, begins, dI0, dI, dSub, dLt, dLe, dGt, dGe, dNeg, dInt, dAbs, dGcd, dDiv, dMod, sBind, bTup, bCons, bNil, bName, eMt, iSeq, iRange, ofRes, flowRes, srcOf, sTryAs, e, dTup_ok, told, pm01]
theorem suite_ok {w : Str} {L R n d : D} {S : Sto} : suiteEnd S (MP.unset 4 ((sSeq (sIf (eOrT (eTest (eB dNe (eXf "NotUsable" "at" (eVar 4)) (eU dNeg (eC (.int 1))))) (eOrT (eNotT (eTest (eCall 1 rf__law_whole (aCons (eXf "NotUsable" "at" (eVar 4)) aNil)))) (eNotT (eTest (eU (dIsi "str") (eXf "NotUsable" "word" (eVar 4)))))))
 (sRet (eTup (aCons (eC (.str "strange")) (aCons (eC (.str "")) aNil)))) sSkip) (sRet (eTup (aCons (eC (.str "refused")) (aCons (eXf "NotUsable" "word" (eVar 4)) aNil))))) [some d, some L, some R, some n, some (.exn "NotUsable" ["at", "word"] [.int (-1), .str w])] S)) = .ret (refused w) S := by
  have h1 : fieldOf "at" ["at", "word"] [D.int (-1), .str w] = some (.int (-1)) := rfl
  have h2 : fieldOf "word" ["at", "word"] [D.int (-1), .str w] = some (.str w) := rfl
  have h3 : noX (refused w) = true := rfl
  have h4 : ∀ F, F = MP.Flow.ret (refused w) S → suiteEnd S (MP.unset 4 F) = .ret (refused w) S := fun F e => by
    rw [e]
    exact keepIf_pos ⟨h3, rfl⟩
  refine h4 _ ?_
  simp [eVar, eC, eB, eU, eL, boolOf, eTest, eNotT, eAndT, eOrT, eNot, eAnd, eOr, eIf, aNil, aCons, eTup, eLst, eChain, sSkip, sSeq, sAsg, sPar, sExpr, sRet, sRetN, sIf, sBrk, sCont, sSub, eCall, eKw, runDef, begins, dI0, dI, dSub, dLt, dLe, dGt, dGe, dNeg, dInt, dAbs, dGcd, dDiv, dMod, sBind, bTup, bCons, bNil, bName, eMt, iSeq, iRange, ofRes, flowRes, srcOf, eXf, h1, h2, lw_int, dTup_ok, refused]
theorem ask_r0 {L R : D} {w : Str} {b : Bool} {S : Sto} (h : Ref (rf_total [L] S) w S) : Ans (rf__law_ask [.int 0, L, R, .bl b] S) (refused w) S := by
  obtain ⟨G, e⟩ := h
  refine ⟨G, ?_⟩
  have k := suite_ok (w := w) (L := L) (R := R) (n := .bl b) (d := .int 0) (S := S ++ G)
  unfold rf__law_ask runDef ev__law_ask sTryAs
  cases b <;> simp [eVar, eC, eB, eU, eL, boolOf, eTest, eNotT, eAndT, eOrT, eNot, eAnd, eOr, eIf, aNil, aCons, eTup, eLst, eChain, sSkip, sSeq, sAsg, sPar, sExpr, sRet, sRetN, sIf, sBrk, sCont, sSub, eCall, eKw, runDef, begins, dI0, dI, dSub, dLt, dLe, dGt, dGe, dNeg, dInt, dAbs, dGcd, dDiv, dMod, sBind, bTup, bCons, bNil, bName, eMt, iSeq, iRange, ofRes, flowRes, srcOf, e, pm01, dec1] at k ⊢ <;> rw [k]
theorem ask_r1 {L R : D} {w : Str} {b : Bool} {S : Sto} (h : Ref (rf_weighed [L, R] S) w S) : Ans (rf__law_ask [.int 1, L, R, .bl b] S) (refused w) S := by
  obtain ⟨G, e⟩ := h
  refine ⟨G, ?_⟩
  have k := suite_ok (w := w) (L := L) (R := R) (n := .bl b) (d := .int 1) (S := S ++ G)
  unfold rf__law_ask runDef ev__law_ask sTryAs
  cases b <;> simp [eVar, eC, eB, eU, eL, boolOf, eTest, eNotT, eAndT, eOrT, eNot, eAnd, eOr, eIf, aNil, aCons, eTup, eLst, eChain, sSkip, sSeq, sAsg, sPar, sExpr, sRet, sRetN, sIf, sBrk, sCont, sSub, eCall, eKw, runDef, begins, dI0, dI, dSub, dLt, dLe, dGt, dGe, dNeg, dInt, dAbs, dGcd, dDiv, dMod, sBind, bTup, bCons, bNil, bName, eMt, iSeq, iRange, ofRes, flowRes, srcOf, e, pm10, dec1] at k ⊢ <;> rw [k]
theorem ask_r2 {L R : D} {w : Str} {b : Bool} {S : Sto} (h : Ref (rf_least_of [L] S) w S) : Ans (rf__law_ask [.int 2, L, R, .bl b] S) (refused w) S := by
  obtain ⟨G, e⟩ := h
  refine ⟨G, ?_⟩
  have k := suite_ok (w := w) (L := L) (R := R) (n := .bl b) (d := .int 2) (S := S ++ G)
  unfold rf__law_ask runDef ev__law_ask sTryAs
  cases b <;> simp [eVar, eC, eB, eU, eL, boolOf, eTest, eNotT, eAndT, eOrT, eNot, eAnd, eOr, eIf, aNil, aCons, eTup, eLst, eChain, sSkip, sSeq, sAsg, sPar, sExpr, sRet, sRetN, sIf, sBrk, sCont, sSub, eCall, eKw, runDef, begins, dI0, dI, dSub, dLt, dLe, dGt, dGe, dNeg, dInt, dAbs, dGcd, dDiv, dMod, sBind, bTup, bCons, bNil, bName, eMt, iSeq, iRange, ofRes, flowRes, srcOf, e, pm01, dec1] at k ⊢ <;> rw [k]
theorem ask_r3 {L R : D} {w : Str} {b : Bool} {S : Sto} (h : Ref (rf_greatest_of [L] S) w S) : Ans (rf__law_ask [.int 3, L, R, .bl b] S) (refused w) S := by
  obtain ⟨G, e⟩ := h
  refine ⟨G, ?_⟩
  have k := suite_ok (w := w) (L := L) (R := R) (n := .bl b) (d := .int 3) (S := S ++ G)
  unfold rf__law_ask runDef ev__law_ask sTryAs
  cases b <;> simp [eVar, eC, eB, eU, eL, boolOf, eTest, eNotT, eAndT, eOrT, eNot, eAnd, eOr, eIf, aNil, aCons, eTup, eLst, eChain, sSkip, sSeq, sAsg, sPar, sExpr, sRet, sRetN, sIf, sBrk, sCont, sSub, eCall, eKw, runDef, begins, dI0, dI, dSub, dLt, dLe, dGt, dGe, dNeg, dInt, dAbs, dGcd, dDiv, dMod, sBind, bTup, bCons, bNil, bName, eMt, iSeq, iRange, ofRes, flowRes, srcOf, e, pm01, dec1] at k ⊢ <;> rw [k]
end LawM
end
section
set_option Elab.async false
set_option linter.all false
set_option maxRecDepth 100000
set_option maxHeartbeats 1000000
/-! P6: the law's own reckoning. -/
namespace LawM
open PySem PySem.Spec PyProof.Rows L2 MP
theorem for_rng {a : EvA} {ρ : MP.Env} {S : Sto} {n : Nat} {b : D → MP.Env → Option MP.Env} {body : Es} {F : MP.Flow} (ha : a ρ S = .ok [.int (n : Int)] S) (hn : n ≤ 1000000) (h : forLoop (fun _ => True) b body (rngL 0 n) ρ S = F) : sFor (iRange rng1 a) b body ρ S = F := by
  unfold sFor iRange
  rw [ha, Res.bind_ok, rng_ok hn, ofRes_ok]
  exact h
theorem for_lst {e : Ev} {ρ : MP.Env} {S S' : Sto} {l : Nat} {xs : List D} {b : D → MP.Env → Option MP.Env} {body : Es} {F : MP.Flow} (he : e ρ S = .ok (.lst l) S') (hl : S'[l]? = some xs) (h : forLoop (fun S' => S'[l]? = some xs) b body xs ρ S' = F) : sFor (iSeq e) b body ρ S = F := by
  unfold sFor iSeq srcOf
  rw [he, Res.bind_ok]
  simp only [hl, Option.map_some, ofRes_ok]
  exact h
theorem foldF_snoc (q : Int × Int) : ∀ (z : List (Int × Int)) (s : Int × Int), foldF (z ++ [q]) s = fold1 (foldF z s).1 (foldF z s).2 q
  | [], s => rfl
  | p :: z, s => by
    rw [List.cons_append, foldF, foldF, foldF_snoc q z]
theorem take_next {α : Type} {z : List α} {i : Nat} {q : α} (h : z[i]? = some q) : z.take (i + 1) = z.take i ++ [q] := by
  rw [List.take_add_one, h]
  rfl
theorem Fr.bt {z : List (Int × Int)} {γ : Nat} (h : Fr z γ) (hn : z.length ≤ 41) (i : Nat) : Bt (foldF (z.take i) (0, 1)).1 8950 ∧ Bt (foldF (z.take i) (0, 1)).2 8950 := by
  obtain ⟨a, b⟩ := foldF_bt (γ := γ) (z.take i) 0 1 1 (by unfold Bt; decide) (by unfold Bt; decide) fun q hq => (h.1 q (List.mem_of_mem_take hq)).2
  have l1 : (z.take i).length ≤ z.length := by simp; omega
  have l2 : (γ + 1) * (z.take i).length ≤ γ * z.length + z.length := by
    rw [Nat.add_mul, Nat.one_mul]
    exact Nat.add_le_add (Nat.mul_le_mul_left _ l1) l1
  have := h.2
  exact ⟨a.mono (by omega), b.mono (by omega)⟩
theorem st_bt {q : Int × Int} {T B : Int} {k : Nat} (h : St q T B) (hB : 0 < B) (bT : Bt T k) (bB : Bt B k) : Bt q.1 k ∧ Bt q.2 k := by
  obtain ⟨⟨h1, h2⟩, e⟩ := h
  have n : q.1.natAbs * B.natAbs = q.2.natAbs * T.natAbs := by
    have := congrArg Int.natAbs e
    rwa [Int.natAbs_mul, Int.natAbs_mul] at this
  have d1 : q.2.natAbs ∣ B.natAbs := by
    have : q.2.natAbs ∣ q.1.natAbs * B.natAbs := by rw [n]; exact Nat.dvd_mul_right _ _
    exact Nat.Coprime.dvd_of_dvd_mul_left (Nat.Coprime.symm h2) this
  have d2 : q.1.natAbs ∣ T.natAbs := by
    have : q.1.natAbs ∣ q.2.natAbs * T.natAbs := by rw [← n]; exact Nat.dvd_mul_right _ _
    exact Nat.Coprime.dvd_of_dvd_mul_left h2 this
  refine ⟨?_, Nat.lt_of_le_of_lt (Nat.le_of_dvd (by omega) d1) bB⟩
  by_cases hT : T.natAbs = 0
  · rw [hT, Nat.mul_zero] at n
    have : q.1.natAbs = 0 := by
      rcases Nat.mul_eq_zero.mp n with h | h
      · exact h
      · omega
    unfold Bt
    rw [this]
    exact Nat.pow_pos (by decide)
  · exact Nat.lt_of_le_of_lt (Nat.le_of_dvd (by omega) d2) bT
theorem zl_at {l r : List (Int × Int)} {i : Nat} {p q : Int × Int} (h1 : l[i]? = some p) (h2 : r[i]? = some q) : (zl l r)[i]? = some (p.1 * q.1, p.2 * q.2) := by
  unfold zl
  rw [List.getElem?_zipWith, h1, h2]
theorem zl_len {l r : List (Int × Int)} {β n : Nat} (h : Rw β n l) (h' : Rw β n r) : (zl l r).length = n := by
  unfold zl
  simp [h.len, h'.len]
theorem at_lt {α : Type} {l : List α} {i : Nat} (h : i < l.length) : ∃ p, l[i]? = some p := ⟨_, List.getElem?_eq_getElem h⟩
theorem at_dq {l : List (Int × Int)} {i : Nat} {p : Int × Int} (h : l[i]? = some p) : (l.map dq)[i]? = some (dq p) := by
  rw [List.getElem?_map, h]
  rfl
theorem sum_loop {β n : Nat} {l r : List (Int × Int)} {q : Int × Int} {S : Sto} {a b : Nat} (h : Rw β n l) (h' : Rw β n r) (hb : β * n ≤ 4450) (hβ : β ≤ 4450) (hn : n ≤ 41) (hs : St q (fold (zl l r)).1 (fold (zl l r)).2)
    (ha : S[a]? = some (l.map dq)) (hbb : S[b]? = some (r.map dq)) : ∃ p5 p6 p7, forLoop (fun _ => True) (bName 5) (sSeq (sAsg 6 (eB dMul (eB dIx (eB dIx (eVar 0) (eVar 5)) (eC (.int 0))) (eB dIx (eB dIx (eVar 1) (eVar 5)) (eC (.int 0)))))
      (sSeq (sAsg 7 (eB dMul (eB dIx (eB dIx (eVar 0) (eVar 5)) (eC (.int 1))) (eB dIx (eB dIx (eVar 1) (eVar 5)) (eC (.int 1)))))
      (sSeq (sAsg 3 (eB dAdd (eB dMul (eVar 3) (eVar 7)) (eB dMul (eVar 6) (eVar 4)))) (sAsg 4 (eB dMul (eVar 4) (eVar 7))))))
    (rngL 0 n) [some (.lst a), some (.lst b), some (told (dq q)), some (.int 0), some (.int 1), none, none, none] S = .next [some (.lst a), some (.lst b), some (told (dq q)), some (.int (fold (zl l r)).1), some (.int (fold (zl l r)).2), p5, p6, p7] S := by
  have F := h.zz h' hb
  have zn := zl_len h h'
  obtain ⟨ρ', S', e1, e2, p5, p6, p7, e3⟩ := for_all (st := fun _ => True) (b := bName 5)
    (body := sSeq (sAsg 6 (eB dMul (eB dIx (eB dIx (eVar 0) (eVar 5)) (eC (.int 0))) (eB dIx (eB dIx (eVar 1) (eVar 5)) (eC (.int 0)))))
      (sSeq (sAsg 7 (eB dMul (eB dIx (eB dIx (eVar 0) (eVar 5)) (eC (.int 1))) (eB dIx (eB dIx (eVar 1) (eVar 5)) (eC (.int 1)))))
      (sSeq (sAsg 3 (eB dAdd (eB dMul (eVar 3) (eVar 7)) (eB dMul (eVar 6) (eVar 4)))) (sAsg 4 (eB dMul (eVar 4) (eVar 7))))))
    (fun i ρ S' => S' = S ∧ ∃ p5 p6 p7, ρ = [some (.lst a), some (.lst b), some (told (dq q)), some (.int (foldF ((zl l r).take i) (0, 1)).1), some (.int (foldF ((zl l r).take i) (0, 1)).2), p5, p6, p7]) (fun _ _ _ _ => trivial) (rngL 0 n)
    [some (.lst a), some (.lst b), some (told (dq q)), some (.int 0), some (.int 1), none, none, none] S
    (fun i x ρ S' hx hI => by
      obtain ⟨e, p5, p6, p7, rfl⟩ := hI
      subst e
      obtain ⟨hi, rfl⟩ := rng_at hx
      obtain ⟨u, hu⟩ := at_lt (l := l) (i := i) (by rw [h.len]; exact hi)
      obtain ⟨v, hv⟩ := at_lt (l := r) (i := i) (by rw [h'.len]; exact hi)
      have bu := h.bt u (List.mem_of_getElem? hu)
      have bv := h'.bt v (List.mem_of_getElem? hv)
      obtain ⟨t1, t2⟩ := F.bt (by rw [zn]; exact hn) i
      have hz := take_next (zl_at hu hv)
      have c1 := mulA bu.1 bv.1 (by omega)
      have c2 := mulA bu.2 bv.2 (by omega)
      have c3 := mulA t1 (bu.2.mul bv.2) (by omega)
      have c4 := mulA (bu.1.mul bv.1) t2 (by omega)
      have c5 := mulA t2 (bu.2.mul bv.2) (by omega)
      have i1 := ix_lst ha (at_dq hu)
      have i2 := ix_lst hbb (at_dq hv)
      refine ⟨_, [some (.lst a), some (.lst b), some (told (dq q)), some (.int (foldF ((zl l r).take (i + 1)) (0, 1)).1), some (.int (foldF ((zl l r).take (i + 1)) (0, 1)).2), some (.int i), some (.int (u.1 * v.1)), some (.int (u.2 * v.2))], _, rfl, ?_, rfl, _, _, _, rfl⟩
      rw [hz, foldF_snoc]
      simp [eVar, eC, eB, eU, eL, boolOf, eTest, eNotT, eAndT, eOrT, eNot, eAnd, eOr, eIf, aNil, aCons, eTup, eLst, eChain, sSkip, sSeq, sAsg, sPar, sExpr, sRet, sRetN, sIf, sBrk, sCont, sSub, eCall, eKw, runDef, begins, dI0, dI, dSub, dLt, dLe, dGt, dGe, dNeg, dInt, dAbs, dGcd, dDiv, dMod, sBind, bTup, bCons, bNil, bName, eMt, iSeq, iRange, ofRes, flowRes, srcOf, i1, i2, dMul_int c1, dMul_int c2, dMul_int c3, dMul_int c4, dMul_int c5, fold1])
    ⟨rfl, none, none, none, rfl⟩
  rw [rngL_length, List.take_of_length_le (by rw [zn]; exact Nat.le_refl _)] at e3
  subst e2 e3
  exact ⟨p5, p6, p7, e1⟩
theorem sum_ok {β n : Nat} {l r : List (Int × Int)} {q : Int × Int} {S : Sto} {a b : Nat} (h : Rw β n l) (h' : Rw β n r) (hb : β * n ≤ 4450) (hβ : β ≤ 4450) (hn : n ≤ 41) (hs : St q (fold (zl l r)).1 (fold (zl l r)).2)
    (ha : S[a]? = some (l.map dq)) (hbb : S[b]? = some (r.map dq)) : rf__law_sum [.lst a, .lst b, told (dq q)] S = .ok (.bl true) S := by
  have F := h.zz h' hb
  have zn := zl_len h h'
  obtain ⟨p5, p6, p7, e1⟩ := sum_loop h h' hb hβ hn hs ha hbb
  obtain ⟨t1, t2⟩ := F.bt (by rw [zn]; exact hn) n
  rw [List.take_of_length_le (by rw [zn]; exact Nat.le_refl _)] at t1 t2
  have eF : foldF (zl l r) (0, 1) = fold (zl l r) := rfl
  rw [eF] at t1 t2
  have hB := F.st.2
  obtain ⟨q1, q2⟩ := st_bt hs hB t1 t2
  have k := stands_ok (q := q) (T := (fold (zl l r)).1) (B := (fold (zl l r)).2) (S := S) hs.1 (q2.mono (show 8950 ≤ 8990 by omega)) (mulA q1 t2 (by omega)) (mulA q2 t1 (by omega)) hs.2
  have hl : dLen [.lst a] S = some (.int (n : Int), S) := by
    rw [len_lst ha]
    simp [h.len]
  have r1 := rng_ok (n := n) (S := S) (by omega)
  have es : dEq (.str "told") (.str "told") S = some (.bl true, S) := by
    rw [dEq_str (by decide +kernel) (by decide +kernel)]
    rfl
  unfold rf__law_sum runDef ev__law_sum
  rw [seq_next (ρ' := [some (.lst a), some (.lst b), some (told (dq q)), some (.int 0), none, none, none, none]) (S' := S) (by simp [eVar, eC, eB, eU, eL, boolOf, eTest, eNotT, eAndT, eOrT, eNot, eAnd, eOr, eIf, aNil, aCons, eTup, eLst, eChain, sSkip, sSeq, sAsg, sPar, sExpr, sRet, sRetN, sIf, sBrk, sCont, sSub, eCall, eKw, runDef, begins, dI0, dI, dSub, dLt, dLe, dGt, dGe, dNeg, dInt, dAbs, dGcd, dDiv, dMod, sBind, bTup, bCons, bNil, bName, eMt, iSeq, iRange, ofRes, flowRes, srcOf])]
  rw [seq_next (ρ' := [some (.lst a), some (.lst b), some (told (dq q)), some (.int 0), some (.int 1), none, none, none]) (S' := S) (by simp [eVar, eC, eB, eU, eL, boolOf, eTest, eNotT, eAndT, eOrT, eNot, eAnd, eOr, eIf, aNil, aCons, eTup, eLst, eChain, sSkip, sSeq, sAsg, sPar, sExpr, sRet, sRetN, sIf, sBrk, sCont, sSub, eCall, eKw, runDef, begins, dI0, dI, dSub, dLt, dLe, dGt, dGe, dNeg, dInt, dAbs, dGcd, dDiv, dMod, sBind, bTup, bCons, bNil, bName, eMt, iSeq, iRange, ofRes, flowRes, srcOf])]
  rw [seq_next (ρ' := [some (.lst a), some (.lst b), some (told (dq q)), some (.int (fold (zl l r)).1), some (.int (fold (zl l r)).2), p5, p6, p7]) (S' := S)]
  · simp only [eVar, eC, eB, eU, eL, boolOf, eTest, eNotT, eAndT, eOrT, eNot, eAnd, eOr, eIf, aNil, aCons, eTup, eLst, eChain, sSkip, sSeq, sAsg, sPar, sExpr, sRet, sRetN, sIf, sBrk, sCont, sSub, eCall, eKw, runDef, begins, dI0, dI, dSub, dLt, dLe, dGt, dGe, dNeg, dInt, dAbs, dGcd, dDiv, dMod, sBind, bTup, bCons, bNil, bName, eMt, iSeq, iRange, ofRes, flowRes, srcOf, told, List.getElem?_cons_zero, List.getElem?_cons_succ, Res.bind_ok, ix_tup0, ix_tup1, lift_some, es, if_true, List.length, Nat.zero_add, Nat.reduceAdd]
    rw [k]
  · exact for_rng (by simp [eVar, eC, eB, eU, eL, boolOf, eTest, eNotT, eAndT, eOrT, eNot, eAnd, eOr, eIf, aNil, aCons, eTup, eLst, eChain, sSkip, sSeq, sAsg, sPar, sExpr, sRet, sRetN, sIf, sBrk, sCont, sSub, eCall, eKw, runDef, begins, dI0, dI, dSub, dLt, dLe, dGt, dGe, dNeg, dInt, dAbs, dGcd, dDiv, dMod, sBind, bTup, bCons, bNil, bName, eMt, iSeq, iRange, ofRes, flowRes, srcOf, hl]) (by omega) e1
theorem end_ok {β : Nat} {l : List (Int × Int)} {q : Int × Int} {s : Int} {S : Sto} {a : Nat} (hb : Bts l β) (hβ : β ≤ 4450) (hq : Qu q) (hm : q ∈ l) (hs : s = 1 ∨ s = -1) (hle : ∀ x ∈ l, 0 ≤ s * (x.1 * q.2 - q.1 * x.2))
    (ha : S[a]? = some (l.map dq)) : rf__law_end [.lst a, told (dq q), .int s] S = .ok (.bl true) S := by
  obtain ⟨q1, q2⟩ := hb q hm
  obtain ⟨ρ', S', e1, e2, p4, e3⟩ := for_all (st := fun S' => S'[a]? = some (l.map dq)) (b := bName 4)
    (body := sSeq (sAsg 3 (eOr (eVar 3) (eB dEq (eVar 4) (eB dIx (eVar 1) (eC (.int 1))))))
      (sIf (eTest (eB dLt (eB dMul (eVar 2) (eB dSub (eB dMul (eB dIx (eVar 4) (eC (.int 0))) (eB dIx (eB dIx (eVar 1) (eC (.int 1))) (eC (.int 1)))) (eB dMul (eB dIx (eB dIx (eVar 1) (eC (.int 1))) (eC (.int 0))) (eB dIx (eVar 4) (eC (.int 1)))))) (eC (.int 0))))
      (sRet (eC (.bl false))) sSkip))
    (fun i ρ S' => S' = S ∧ ∃ p4, ρ = [some (.lst a), some (told (dq q)), some (.int s), some (.bl ((l.take i).any fun x => decide (x = q))), p4]) (fun _ _ _ h => by rw [h.1]; exact ha) (l.map dq)
    [some (.lst a), some (told (dq q)), some (.int s), some (.bl false), none] S
    (fun i x ρ S' hx hI => by
      obtain ⟨e, p4, rfl⟩ := hI
      subst e
      obtain ⟨u, hu, rfl⟩ : ∃ u, l[i]? = some u ∧ dq u = x := by
        rw [List.getElem?_map] at hx
        cases hh : l[i]? with
        | none => rw [hh] at hx; cases hx
        | some u => rw [hh] at hx; exact ⟨u, rfl, Option.some.inj hx⟩
      have mu := List.mem_of_getElem? hu
      have bu := hb u mu
      have c1 := mulA bu.1 q2 (by omega)
      have c2 := mulA q1 bu.2 (by omega)
      have c3 : CMulA s (u.1 * q.2 - q.1 * u.2) := mulA (a := 1) (b := β + β + 1) (by rcases hs with rfl | rfl <;> (unfold Bt; decide)) (by rw [Int.sub_eq_add_neg]; exact (bu.1.mul q2).add ((q1.mul bu.2).neg.mono (by omega))) (by omega)
      have nl : ¬ s * (u.1 * q.2 - q.1 * u.2) < 0 := Int.not_lt.mpr (hle u mu)
      refine ⟨_, [some (.lst a), some (told (dq q)), some (.int s), some (.bl ((l.take (i + 1)).any fun x => decide (x = q))), some (dq u)], _, rfl, ?_, rfl, _, rfl⟩
      rw [take_next hu, List.any_append]
      cases hf : (l.take i).any fun x => decide (x = q)
      · simp [eVar, eC, eB, eU, eL, boolOf, eTest, eNotT, eAndT, eOrT, eNot, eAnd, eOr, eIf, aNil, aCons, eTup, eLst, eChain, sSkip, sSeq, sAsg, sPar, sExpr, sRet, sRetN, sIf, sBrk, sCont, sSub, eCall, eKw, runDef, begins, dI0, dI, dSub, dLt, dLe, dGt, dGe, dNeg, dInt, dAbs, dGcd, dDiv, dMod, sBind, bTup, bCons, bNil, bName, eMt, iSeq, iRange, ofRes, flowRes, srcOf, told, dMul_int c1, dMul_int c2, dMul_int c3, nl]
      · simp [eVar, eC, eB, eU, eL, boolOf, eTest, eNotT, eAndT, eOrT, eNot, eAnd, eOr, eIf, aNil, aCons, eTup, eLst, eChain, sSkip, sSeq, sAsg, sPar, sExpr, sRet, sRetN, sIf, sBrk, sCont, sSub, eCall, eKw, runDef, begins, dI0, dI, dSub, dLt, dLe, dGt, dGe, dNeg, dInt, dAbs, dGcd, dDiv, dMod, sBind, bTup, bCons, bNil, bName, eMt, iSeq, iRange, ofRes, flowRes, srcOf, told, dMul_int c1, dMul_int c2, dMul_int c3, nl])
    ⟨rfl, none, rfl⟩
  have hf : (l.any fun x => decide (x = q)) = true := List.any_eq_true.mpr ⟨q, hm, by simp⟩
  rw [List.length_map, List.take_of_length_le (Nat.le_refl _), hf] at e3
  subst e2 e3
  have es : dNe (.str "told") (.str "told") S' = some (.bl false, S') := by
    rw [dNe_str (by decide +kernel) (by decide +kernel)]
    rfl
  have k := lawq_ok (S := S') hq (q2.mono (show β ≤ 8990 by omega))
  unfold rf__law_end runDef ev__law_end
  rw [seq_next (ρ' := [some (.lst a), some (told (dq q)), some (.int s), none, none]) (S' := S')]
  · rw [seq_next (ρ' := [some (.lst a), some (told (dq q)), some (.int s), some (.bl false), none]) (S' := S') (by simp [eVar, eC, eB, eU, eL, boolOf, eTest, eNotT, eAndT, eOrT, eNot, eAnd, eOr, eIf, aNil, aCons, eTup, eLst, eChain, sSkip, sSeq, sAsg, sPar, sExpr, sRet, sRetN, sIf, sBrk, sCont, sSub, eCall, eKw, runDef, begins, dI0, dI, dSub, dLt, dLe, dGt, dGe, dNeg, dInt, dAbs, dGcd, dDiv, dMod, sBind, bTup, bCons, bNil, bName, eMt, iSeq, iRange, ofRes, flowRes, srcOf])]
    rw [seq_next (ρ' := [some (.lst a), some (told (dq q)), some (.int s), some (.bl true), p4]) (S' := S')]
    · simp [eVar, eC, eB, eU, eL, boolOf, eTest, eNotT, eAndT, eOrT, eNot, eAnd, eOr, eIf, aNil, aCons, eTup, eLst, eChain, sSkip, sSeq, sAsg, sPar, sExpr, sRet, sRetN, sIf, sBrk, sCont, sSub, eCall, eKw, runDef, begins, dI0, dI, dSub, dLt, dLe, dGt, dGe, dNeg, dInt, dAbs, dGcd, dDiv, dMod, sBind, bTup, bCons, bNil, bName, eMt, iSeq, iRange, ofRes, flowRes, srcOf]
    · exact for_lst (by simp [eVar, eC, eB, eU, eL, boolOf, eTest, eNotT, eAndT, eOrT, eNot, eAnd, eOr, eIf, aNil, aCons, eTup, eLst, eChain, sSkip, sSeq, sAsg, sPar, sExpr, sRet, sRetN, sIf, sBrk, sCont, sSub, eCall, eKw, runDef, begins, dI0, dI, dSub, dLt, dLe, dGt, dGe, dNeg, dInt, dAbs, dGcd, dDiv, dMod, sBind, bTup, bCons, bNil, bName, eMt, iSeq, iRange, ofRes, flowRes, srcOf]) ha e1
  · simp only [eVar, eC, eB, eU, eL, boolOf, eTest, eNotT, eAndT, eOrT, eNot, eAnd, eOr, eIf, aNil, aCons, eTup, eLst, eChain, sSkip, sSeq, sAsg, sPar, sExpr, sRet, sRetN, sIf, sBrk, sCont, sSub, eCall, eKw, runDef, begins, dI0, dI, dSub, dLt, dLe, dGt, dGe, dNeg, dInt, dAbs, dGcd, dDiv, dMod, sBind, bTup, bCons, bNil, bName, eMt, iSeq, iRange, ofRes, flowRes, srcOf, told, List.map, List.length, List.replicate, List.cons_append, List.nil_append, List.getElem?_cons_zero, List.getElem?_cons_succ, Res.bind_ok, ix_tup0, ix_tup1, lift_some, es, if_true, Nat.zero_add, Nat.reduceAdd, Nat.reduceSub]
    rw [k]
    rfl
end LawM
end
section
set_option Elab.async false
set_option linter.all false
set_option maxRecDepth 100000
set_option maxHeartbeats 1000000
/-! P7: the pool. -/
namespace LawM
open PySem PySem.Spec PyProof.Rows L2 MP
theorem pow10 (k : Nat) (hk : k ≤ 1000) {S : Sto} : dPow (.int 10) (.int (k : Int)) S = some (.int (10 ^ k), S) := by
  have h : CPow 10 (k : Int) := by
    refine ⟨by omega, by omega, by decide⟩
  unfold dPow dI
  simp [h]
theorem fmod_range {a m : Int} (h : 0 < m) : 0 ≤ a.fmod m ∧ a.fmod m < m := by
  rw [Int.fmod_eq_emod_of_nonneg _ (by omega)]
  exact ⟨Int.emod_nonneg _ (by omega), Int.emod_lt_of_pos _ h⟩
theorem bt_of {x : Int} {k : Nat} {m : Int} (h0 : 0 ≤ x) (h : x < m) (hm : m.natAbs ≤ 2 ^ k) : Bt x k := by
  unfold Bt
  omega
theorem mixed_ok {c t : Int} (hc : Bt c 1000) (ht : Bt t 100) {S : Sto} : ∃ r, rf__law_mixed [.int c, .int t] S = .ok (.int r) S := by
  have a1 := mulA (y := 50051) (b := 20) hc (by unfold Bt; decide) (by decide)
  have a2 := mulA (y := 72019) (b := 20) ht (by unfold Bt; decide) (by decide)
  have n1 : CModA (c * 50051 + t * 72019 + 13) 2147480027 := by unfold CModA; decide
  obtain ⟨f1, f2⟩ := fmod_range (a := c * 50051 + t * 72019 + 13) (m := 2147480027) (by decide)
  generalize hf : (c * 50051 + t * 72019 + 13).fmod 2147480027 = f at f1 f2
  have bf : Bt f 31 := bt_of f1 f2 (by decide)
  have a3 := mulA bf bf (by decide)
  have a4 := mulA (y := 30029) (b := 20) ht (by unfold Bt; decide) (by decide)
  have n2 : CModA (f * f + t * 30029 + 5) 2147470033 := by unfold CModA; decide
  obtain ⟨g1, g2⟩ := fmod_range (a := f * f + t * 30029 + 5) (m := 2147470033) (by decide)
  generalize hg : (f * f + t * 30029 + 5).fmod 2147470033 = g at g1 g2
  have bg : Bt g 31 := bt_of g1 g2 (by decide)
  have a5 := mulA bg bg (by decide)
  have a6 := mulA (y := 20023) (b := 20) bg (by unfold Bt; decide) (by decide)
  have d1 : CDivA (g * g) 4099 := ⟨by decide, by decide⟩
  have n3 : CModA ((g * g).fdiv 4099 + g * 20023 + t) 2147460041 := by unfold CModA; decide
  have d2 : ∀ x, CDivA x 8 := fun x => ⟨by decide, by decide⟩
  refine ⟨(((g * g).fdiv 4099 + g * 20023 + t).fmod 2147460041).fdiv 8, ?_⟩
  unfold rf__law_mixed runDef ev__law_mixed
  rw [seq_next (ρ' := [some (.int c), some (.int t), some (.int f), none, none]) (S' := S) (by simp [eVar, eC, eB, eU, eL, boolOf, eTest, eNotT, eAndT, eOrT, eNot, eAnd, eOr, eIf, aNil, aCons, eTup, eLst, eChain, sSkip, sSeq, sAsg, sPar, sExpr, sRet, sRetN, sIf, sBrk, sCont, sSub, eCall, eKw, runDef, begins, dI0, dI, dSub, dLt, dLe, dGt, dGe, dNeg, dInt, dAbs, dGcd, dDiv, dMod, sBind, bTup, bCons, bNil, bName, eMt, iSeq, iRange, ofRes, flowRes, srcOf, dMul_int a1, dMul_int a2, n1, hf])]
  rw [seq_next (ρ' := [some (.int c), some (.int t), some (.int f), some (.int g), none]) (S' := S) (by simp [eVar, eC, eB, eU, eL, boolOf, eTest, eNotT, eAndT, eOrT, eNot, eAnd, eOr, eIf, aNil, aCons, eTup, eLst, eChain, sSkip, sSeq, sAsg, sPar, sExpr, sRet, sRetN, sIf, sBrk, sCont, sSub, eCall, eKw, runDef, begins, dI0, dI, dSub, dLt, dLe, dGt, dGe, dNeg, dInt, dAbs, dGcd, dDiv, dMod, sBind, bTup, bCons, bNil, bName, eMt, iSeq, iRange, ofRes, flowRes, srcOf, dMul_int a3, dMul_int a4, n2, hg])]
  rw [seq_next (ρ' := [some (.int c), some (.int t), some (.int f), some (.int g), some (.int (((g * g).fdiv 4099 + g * 20023 + t).fmod 2147460041))]) (S' := S) (by simp [eVar, eC, eB, eU, eL, boolOf, eTest, eNotT, eAndT, eOrT, eNot, eAnd, eOr, eIf, aNil, aCons, eTup, eLst, eChain, sSkip, sSeq, sAsg, sPar, sExpr, sRet, sRetN, sIf, sBrk, sCont, sSub, eCall, eKw, runDef, begins, dI0, dI, dSub, dLt, dLe, dGt, dGe, dNeg, dInt, dAbs, dGcd, dDiv, dMod, sBind, bTup, bCons, bNil, bName, eMt, iSeq, iRange, ofRes, flowRes, srcOf, dMul_int a5, dMul_int a6, n3, d1])]
  simp [eVar, eC, eB, eU, eL, boolOf, eTest, eNotT, eAndT, eOrT, eNot, eAnd, eOr, eIf, aNil, aCons, eTup, eLst, eChain, sSkip, sSeq, sAsg, sPar, sExpr, sRet, sRetN, sIf, sBrk, sCont, sSub, eCall, eKw, runDef, begins, dI0, dI, dSub, dLt, dLe, dGt, dGe, dNeg, dInt, dAbs, dGcd, dDiv, dMod, sBind, bTup, bCons, bNil, bName, eMt, iSeq, iRange, ofRes, flowRes, srcOf, d2]
/-- the pool, after at most n takings -/
structure Pl (C P : List D) (n : Nat) : Prop where
  ex : ∃ (cs : List Int) (v1 v2 v3 v4 : Int), C = cs.map D.int ∧ P = [.lst 0, .int v1, .int v2, .int v3, .int v4] ∧ (∀ c ∈ cs, Bt c 2000000) ∧ (0 ≤ v1 ∧ Bt v1 700) ∧ (0 ≤ v2 ∧ v2 ≤ n) ∧ Bt v3 40
theorem pop_ok {c : Int} {cs : List Int} {P : List D} {R : Sto} : mPopAt 0 [.int 0] ((c :: cs).map D.int :: P :: R) = some (.int c, cs.map D.int :: P :: R) := by
  have h : ixN ((c :: cs).map D.int).length 0 = some 0 := ixN_nat (k := 0) (by simp)
  unfold mPopAt
  simp only [List.getElem?_cons_zero, Option.bind_some, h]
  simp
theorem int_fmod {r : Int} {m : Nat} (hm : 0 < m) : ∃ k : Nat, k < m ∧ r.fmod (m : Int) = (k : Int) := by
  obtain ⟨a, b⟩ := fmod_range (a := r) (m := (m : Int)) (by omega)
  exact ⟨(r.fmod m).toNat, by omega, by omega⟩
theorem set1 {C : List D} {R : Sto} {v1 v2 v3 v4 w : Int} : gSet (.lst 1) (.int 1) (.int w) (C :: [.lst 0, .int v1, .int v2, .int v3, .int v4] :: R) = some (C :: [.lst 0, .int w, .int v2, .int v3, .int v4] :: R) := set_lst (k := 1) (xs := [.lst 0, .int v1, .int v2, .int v3, .int v4]) rfl (by show 1 < 5; decide)
theorem set2 {C : List D} {R : Sto} {v1 v2 v3 v4 w : Int} : gSet (.lst 1) (.int 2) (.int w) (C :: [.lst 0, .int v1, .int v2, .int v3, .int v4] :: R) = some (C :: [.lst 0, .int v1, .int w, .int v3, .int v4] :: R) := set_lst (k := 2) (xs := [.lst 0, .int v1, .int v2, .int v3, .int v4]) rfl (by show 2 < 5; decide)
section
variable {C : List D} {R : Sto} {a b c d e : D}
theorem at0 : dIx (.lst 1) (.int 0) (C :: [a, b, c, d, e] :: R) = some (a, C :: [a, b, c, d, e] :: R) := ix_lst (k := 0) (xs := [a, b, c, d, e]) rfl rfl
theorem at1 : dIx (.lst 1) (.int 1) (C :: [a, b, c, d, e] :: R) = some (b, C :: [a, b, c, d, e] :: R) := ix_lst (k := 1) (xs := [a, b, c, d, e]) rfl rfl
theorem at2 : dIx (.lst 1) (.int 2) (C :: [a, b, c, d, e] :: R) = some (c, C :: [a, b, c, d, e] :: R) := ix_lst (k := 2) (xs := [a, b, c, d, e]) rfl rfl
theorem at3 : dIx (.lst 1) (.int 3) (C :: [a, b, c, d, e] :: R) = some (d, C :: [a, b, c, d, e] :: R) := ix_lst (k := 3) (xs := [a, b, c, d, e]) rfl rfl
theorem at4 : dIx (.lst 1) (.int 4) (C :: [a, b, c, d, e] :: R) = some (e, C :: [a, b, c, d, e] :: R) := ix_lst (k := 4) (xs := [a, b, c, d, e]) rfl rfl
end
theorem take_rest (F : List D → Sto → Res D) (hF : ∀ c t : Int, Bt c 1000 → Bt t 100 → ∀ S, ∃ r, F [.int c, .int t] S = .ok (.int r) S) {cs : List Int} {v1 v2 v3 v4 : Int} {m n : Nat} {x : Option D} {R : Sto} (hm : 0 < m) (hm2 : m < 2 ^ 60) (hn : n < 2 ^ 60) (hcs : ∀ c ∈ cs, Bt c 2000000) (h1 : 0 ≤ v1 ∧ Bt v1 700) (h2 : 0 ≤ v2 ∧ v2 ≤ n) (h3 : Bt v3 40) :
    ∃ (r : Nat) (C' P' : List D), flowRes ((sSeq (sIf (eTest (eB dGt (eB dIx (eVar 0) (eC (.int 1))) (eC (.int 0)))) (sSeq (sAsg 3 (eB dMod (eL dInt (aCons (eB dIx (eVar 0) (eC (.int 1))) aNil)) (eVar 1)))
 (sSeq (sSub gSet (eVar 0) (eC (.int 1)) (eB dDiv (eB dIx (eVar 0) (eC (.int 1))) (eVar 1))) (sRet (eVar 3)))) sSkip)
 (sSeq (sSub gSet (eVar 0) (eC (.int 2)) (eB dAdd (eB dIx (eVar 0) (eC (.int 2))) (eC (.int 1)))) (sRet (eB dMod (eL dInt (aCons (eCall 2 F (aCons (eB dIx (eVar 0) (eC (.int 3))) (aCons (eB dIx (eVar 0) (eC (.int 2))) aNil))) aNil)) (eVar 1)))))
   [some (.lst 1), some (.int m), x, none] (cs.map D.int :: [.lst 0, .int v1, .int v2, .int v3, .int v4] :: R)) = .ok (.int r) (C' :: P' :: R) ∧ r < m ∧ Pl C' P' (n + 1) := by
  by_cases hv : 0 < v1
  · obtain ⟨k, k1, k2⟩ := int_fmod (r := v1) hm
    have c1 : CModA v1 m := by unfold CModA; omega
    have c2 : CDivA v1 m := divA (b := 60) (by omega) (by unfold Bt; omega) (by decide)
    have e1 : v1.fdiv m = v1 / m := by rw [Int.fdiv_eq_ediv_of_nonneg _ (by omega)]
    have b1 : 0 ≤ v1 / m := Int.ediv_nonneg h1.1 (by omega)
    have b2 : v1 / m ≤ v1 := Int.ediv_le_self _ h1.1
    refine ⟨k, cs.map D.int, [.lst 0, .int (v1 / m), .int v2, .int v3, .int v4], ?_, k1, ⟨cs, _, _, _, _, rfl, rfl, hcs, ⟨b1, ?_⟩, ⟨h2.1, by omega⟩, h3⟩⟩
    · simp [eVar, eC, eB, eU, eL, boolOf, eTest, eNotT, eAndT, eOrT, eNot, eAnd, eOr, eIf, aNil, aCons, eTup, eLst, eChain, sSkip, sSeq, sAsg, sPar, sExpr, sRet, sRetN, sIf, sBrk, sCont, sSub, eCall, eKw, runDef, begins, dI0, dI, dSub, dLt, dLe, dGt, dGe, dNeg, dInt, dAbs, dGcd, dDiv, dMod, sBind, bTup, bCons, bNil, bName, eMt, iSeq, iRange, ofRes, flowRes, srcOf, at1, hv, c1, c2, k2, e1, set1]
    · have := h1.2
      unfold Bt at this ⊢
      omega
  · have hz : v1 = 0 := by omega
    subst hz
    obtain ⟨q, e⟩ := hF v3 (v2 + 1) (h3.mono (by decide)) (by unfold Bt; omega) (cs.map D.int :: [.lst 0, .int 0, .int (v2 + 1), .int v3, .int v4] :: R)
    obtain ⟨k, k1, k2⟩ := int_fmod (r := q) hm
    have c1 : CModA q m := by unfold CModA; omega
    refine ⟨k, cs.map D.int, [.lst 0, .int 0, .int (v2 + 1), .int v3, .int v4], ?_, k1, ⟨cs, _, _, _, _, rfl, rfl, hcs, h1, ⟨by omega, by omega⟩, h3⟩⟩
    simp [eVar, eC, eB, eU, eL, boolOf, eTest, eNotT, eAndT, eOrT, eNot, eAnd, eOr, eIf, aNil, aCons, eTup, eLst, eChain, sSkip, sSeq, sAsg, sPar, sExpr, sRet, sRetN, sIf, sBrk, sCont, sSub, eCall, eKw, runDef, begins, dI0, dI, dSub, dLt, dLe, dGt, dGe, dNeg, dInt, dAbs, dGcd, dDiv, dMod, sBind, bTup, bCons, bNil, bName, eMt, iSeq, iRange, ofRes, flowRes, srcOf, at1, at2, at3, set2, e, c1, k2]
def E18 : Int := 10 ^ 18
def E64 : Int := 10 ^ 64
theorem p18 {S : Sto} : dPow (.int 10) (.int 18) S = some (.int E18, S) := pow10 18 (by decide)
theorem p64 {S : Sto} : dPow (.int 10) (.int 64) S = some (.int E64, S) := pow10 64 (by decide)
theorem b18 : Bt E18 60 := by unfold Bt E18; decide +kernel
theorem b64 : Bt E64 213 := by unfold Bt E64; decide +kernel
theorem z192 : 0 < E64 * E64 * E64 := by unfold E64; decide +kernel
theorem if_t {t : EvB} {a b : Es} {ρ : MP.Env} {S S' : Sto} (h : t ρ S = .ok true S') : sIf t a b ρ S = a ρ S' := by
  unfold sIf
  rw [h]
  rfl
theorem if_f {t : EvB} {a b : Es} {ρ : MP.Env} {S S' : Sto} (h : t ρ S = .ok false S') : sIf t a b ρ S = b ρ S' := by
  unfold sIf
  rw [h]
  rfl
section
variable {F : List D → Sto → Res D} {c X Y : Int} {cs : List Int} {v1 v2 v3 v4 q : Int} {m k : Nat} {R : Sto}
theorem tb1 (hl1 : (0 : Int) < (cs.length : Int) + 1)
   (hl0 : ∀ P R, dLen [.lst 0] ((.int c :: cs.map D.int) :: P :: R) = some (.int ((cs.length : Int) + 1), (.int c :: cs.map D.int) :: P :: R)) : (eAndT (eTest (eB dEq (eB dIx (eVar 0) (eC (.int 1))) (eC (.int 0)))) (eTest (eB dGt (eL dLen (aCons (eB dIx (eVar 0) (eC (.int 0))) aNil)) (eC (.int 0)))))
  [some (.lst 1), some (.int m), none, none] ((.int c :: cs.map D.int) :: [.lst 0, .int 0, .int v2, .int v3, .int v4] :: R) = .ok true ((.int c :: cs.map D.int) :: [.lst 0, .int 0, .int v2, .int v3, .int v4] :: R) := by
  simp [eVar, eC, eB, eU, eL, boolOf, eTest, eNotT, eAndT, eOrT, eNot, eAnd, eOr, eIf, aNil, aCons, eTup, eLst, eChain, sSkip, sSeq, sAsg, sPar, sExpr, sRet, sRetN, sIf, sBrk, sCont, sSub, eCall, eKw, runDef, begins, dI0, dI, dSub, dLt, dLe, dGt, dGe, dNeg, dInt, dAbs, dGcd, dDiv, dMod, sBind, bTup, bCons, bNil, bName, eMt, iSeq, iRange, ofRes, flowRes, srcOf, at0, at1, at2, hl0, hl1]
theorem tb2 (hp0 : mPopAt 0 [.int 0] ((.int c :: cs.map D.int) :: [.lst 0, .int 0, .int v2, .int v3, .int v4] :: R) = some (.int c, cs.map D.int :: [.lst 0, .int 0, .int v2, .int v3, .int v4] :: R)) : (sAsg 2 (eL dAbs (aCons (eMt mPopAt (eB dIx (eVar 0) (eC (.int 0))) (aCons (eC (.int 0)) aNil)) aNil)))
  [some (.lst 1), some (.int m), none, none] ((.int c :: cs.map D.int) :: [.lst 0, .int 0, .int v2, .int v3, .int v4] :: R) = .next [some (.lst 1), some (.int m), some (.int (c.natAbs : Int)), none] (cs.map D.int :: [.lst 0, .int 0, .int v2, .int v3, .int v4] :: R) := by
  simp [eVar, eC, eB, eU, eL, boolOf, eTest, eNotT, eAndT, eOrT, eNot, eAnd, eOr, eIf, aNil, aCons, eTup, eLst, eChain, sSkip, sSeq, sAsg, sPar, sExpr, sRet, sRetN, sIf, sBrk, sCont, sSub, eCall, eKw, runDef, begins, dI0, dI, dSub, dLt, dLe, dGt, dGe, dNeg, dInt, dAbs, dGcd, dDiv, dMod, sBind, bTup, bCons, bNil, bName, eMt, iSeq, iRange, ofRes, flowRes, srcOf, at0, at1, at2, hp0]
theorem tb3 (hs : (c.natAbs : Int) < X) (e : F [.int (c.natAbs : Int), .int (v2 + 1)] (cs.map D.int :: [.lst 0, .int 0, .int (v2 + 1), .int v3, .int v4] :: R) = .ok (.int q) (cs.map D.int :: [.lst 0, .int 0, .int (v2 + 1), .int v3, .int v4] :: R)) (c1 : CModA q m) (k2 : q.fmod m = k) : (sIf (eTest (eB dLt (eVar 2) (eC (.int X)))) (sSeq (sSub gSet (eVar 0) (eC (.int 2)) (eB dAdd (eB dIx (eVar 0) (eC (.int 2))) (eC (.int 1))))
 (sRet (eB dMod (eL dInt (aCons (eCall 2 F (aCons (eVar 2) (aCons (eB dIx (eVar 0) (eC (.int 2))) aNil))) aNil)) (eVar 1)))) sSkip)
  [some (.lst 1), some (.int m), some (.int (c.natAbs : Int)), none] (cs.map D.int :: [.lst 0, .int 0, .int v2, .int v3, .int v4] :: R) = .ret (.int k) (cs.map D.int :: [.lst 0, .int 0, .int (v2 + 1), .int v3, .int v4] :: R) := by
  simp [eVar, eC, eB, eU, eL, boolOf, eTest, eNotT, eAndT, eOrT, eNot, eAnd, eOr, eIf, aNil, aCons, eTup, eLst, eChain, sSkip, sSeq, sAsg, sPar, sExpr, sRet, sRetN, sIf, sBrk, sCont, sSub, eCall, eKw, runDef, begins, dI0, dI, dSub, dLt, dLe, dGt, dGe, dNeg, dInt, dAbs, dGcd, dDiv, dMod, sBind, bTup, bCons, bNil, bName, eMt, iSeq, iRange, ofRes, flowRes, srcOf, at0, at1, at2, set2, e, c1, k2, hs]
theorem tb4 {A : Es} (hs : ¬ (c.natAbs : Int) < X) : (sIf (eTest (eB dLt (eVar 2) (eC (.int X)))) A sSkip)
  [some (.lst 1), some (.int m), some (.int (c.natAbs : Int)), none] (cs.map D.int :: [.lst 0, .int 0, .int v2, .int v3, .int v4] :: R) = .next [some (.lst 1), some (.int m), some (.int (c.natAbs : Int)), none] (cs.map D.int :: [.lst 0, .int 0, .int v2, .int v3, .int v4] :: R) := by
  rw [if_f (S' := cs.map D.int :: [.lst 0, .int 0, .int v2, .int v3, .int v4] :: R) (by simp [eVar, eC, eB, eU, eL, boolOf, eTest, eNotT, eAndT, eOrT, eNot, eAnd, eOr, eIf, aNil, aCons, eTup, eLst, eChain, sSkip, sSeq, sAsg, sPar, sExpr, sRet, sRetN, sIf, sBrk, sCont, sSub, eCall, eKw, runDef, begins, dI0, dI, dSub, dLt, dLe, dGt, dGe, dNeg, dInt, dAbs, dGcd, dDiv, dMod, sBind, bTup, bCons, bNil, bName, eMt, iSeq, iRange, ofRes, flowRes, srcOf, hs])]
  rfl
theorem tb5 {W : Int} (m1 : CMulA Y Y) (m2 : CMulA (Y * Y) Y) (n1 : CModA (c.natAbs : Int) (Y * Y * Y)) (hW : (c.natAbs : Int).fmod (Y * Y * Y) = W) : (sSub gSet (eVar 0) (eC (.int 1)) (eB dMod (eL dInt (aCons (eVar 2) aNil)) (eB dMul (eB dMul (eC (.int Y)) (eC (.int Y))) (eC (.int Y)))))
  [some (.lst 1), some (.int m), some (.int (c.natAbs : Int)), none] (cs.map D.int :: [.lst 0, .int 0, .int v2, .int v3, .int v4] :: R) = .next [some (.lst 1), some (.int m), some (.int (c.natAbs : Int)), none] (cs.map D.int :: [.lst 0, .int W, .int v2, .int v3, .int v4] :: R) := by
  simp [eVar, eC, eB, eU, eL, boolOf, eTest, eNotT, eAndT, eOrT, eNot, eAnd, eOr, eIf, aNil, aCons, eTup, eLst, eChain, sSkip, sSeq, sAsg, sPar, sExpr, sRet, sRetN, sIf, sBrk, sCont, sSub, eCall, eKw, runDef, begins, dI0, dI, dSub, dLt, dLe, dGt, dGe, dNeg, dInt, dAbs, dGcd, dDiv, dMod, sBind, bTup, bCons, bNil, bName, eMt, iSeq, iRange, ofRes, flowRes, srcOf, set1, dMul_int m1, dMul_int m2, n1, hW]
end
theorem take_ok {C P : List D} {n m : Nat} {R : Sto} (h : Pl C P n) (hm : 0 < m) (hm2 : m < 2 ^ 60) (hn : n < 2 ^ 60) : ∃ (r : Nat) (C' P' : List D), rf__law_take [.lst 1, .int (m : Int)] (C :: P :: R) = .ok (.int (r : Int)) (C' :: P' :: R) ∧ r < m ∧ Pl C' P' (n + 1) := by
  obtain ⟨cs, v1, v2, v3, v4, rfl, rfl, hcs, h1, h2, h3⟩ := h.ex
  unfold rf__law_take runDef ev__law_take
  have hF : ∀ c t : Int, Bt c 1000 → Bt t 100 → ∀ S, ∃ r, rf__law_mixed [.int c, .int t] S = .ok (.int r) S := fun c t a b S => mixed_ok a b
  generalize rf__law_mixed = F at hF ⊢
  have h18 : eB dPow (eC (.int 10)) (eC (.int 18)) = eC (.int E18) := by
    funext ρ S
    simp only [eB, eC, Res.bind_ok]
    rw [p18]
    rfl
  have h64 : eB dPow (eC (.int 10)) (eC (.int 64)) = eC (.int E64) := by
    funext ρ S
    simp only [eB, eC, Res.bind_ok]
    rw [p64]
    rfl
  rw [h18, h64]
  have b18 := b18
  have b64 := b64
  have z192 := z192
  clear h18 h64
  generalize E18 = X at b18 ⊢
  generalize E64 = Y at b64 z192 ⊢
  by_cases hz : v4 = 0
  · subst hz
    refine ⟨0, _, _, ?_, hm, ⟨cs, v1, v2, v3, 0, rfl, rfl, hcs, h1, ⟨h2.1, by omega⟩, h3⟩⟩
    rw [seq_ret (d := .int 0) (S' := cs.map D.int :: [.lst 0, .int v1, .int v2, .int v3, .int 0] :: R) (by simp [eVar, eC, eB, eU, eL, boolOf, eTest, eNotT, eAndT, eOrT, eNot, eAnd, eOr, eIf, aNil, aCons, eTup, eLst, eChain, sSkip, sSeq, sAsg, sPar, sExpr, sRet, sRetN, sIf, sBrk, sCont, sSub, eCall, eKw, runDef, begins, dI0, dI, dSub, dLt, dLe, dGt, dGe, dNeg, dInt, dAbs, dGcd, dDiv, dMod, sBind, bTup, bCons, bNil, bName, eMt, iSeq, iRange, ofRes, flowRes, srcOf, at4])]
    rfl
  · rw [seq_next (ρ' := [some (.lst 1), some (.int m), none, none]) (S' := cs.map D.int :: [.lst 0, .int v1, .int v2, .int v3, .int v4] :: R) (by simp [eVar, eC, eB, eU, eL, boolOf, eTest, eNotT, eAndT, eOrT, eNot, eAnd, eOr, eIf, aNil, aCons, eTup, eLst, eChain, sSkip, sSeq, sAsg, sPar, sExpr, sRet, sRetN, sIf, sBrk, sCont, sSub, eCall, eKw, runDef, begins, dI0, dI, dSub, dLt, dLe, dGt, dGe, dNeg, dInt, dAbs, dGcd, dDiv, dMod, sBind, bTup, bCons, bNil, bName, eMt, iSeq, iRange, ofRes, flowRes, srcOf, at4, hz])]
    have hlen : ∀ cs : List Int, ∀ P R, dLen [.lst 0] (cs.map D.int :: P :: R) = some (.int cs.length, cs.map D.int :: P :: R) := fun cs P R => by
      rw [len_lst (xs := cs.map D.int) rfl]
      simp
    by_cases hp : v1 = 0 ∧ cs ≠ []
    · obtain ⟨hv, hc⟩ := hp
      subst hv
      match cs, hc with
      | c :: cs, _ =>
        have bc := hcs c (by simp)
        have hl1 : (0 : Int) < (cs.length : Int) + 1 := by omega
        by_cases hs : (c.natAbs : Int) < X
        · obtain ⟨q, e⟩ := hF (c.natAbs : Int) (v2 + 1) (Bt.mono (a := 60) (by have := b18; unfold Bt at this ⊢; omega) (by omega)) (by unfold Bt; omega) (cs.map D.int :: [.lst 0, .int 0, .int (v2 + 1), .int v3, .int v4] :: R)
          obtain ⟨k, k1, k2⟩ := int_fmod (r := q) hm
          have c1 : CModA q m := by unfold CModA; omega
          refine ⟨k, cs.map D.int, [.lst 0, .int 0, .int (v2 + 1), .int v3, .int v4], ?_, k1, ⟨cs, _, _, _, _, rfl, rfl, fun x hx => hcs x (by simp [hx]), h1, ⟨by omega, by omega⟩, h3⟩⟩
          rw [seq_ret (d := .int k) (S' := cs.map D.int :: [.lst 0, .int 0, .int (v2 + 1), .int v3, .int v4] :: R)]
          · rfl
          · have hl0 := hlen (c :: cs)
            have hp0 := pop_ok (c := c) (cs := cs) (P := [.lst 0, .int 0, .int v2, .int v3, .int v4]) (R := R)
            simp only [List.map_cons, List.length_cons, Int.natCast_add, Int.cast_ofNat_Int] at hl0 hp0
            rw [List.map_cons, if_t (tb1 hl1 hl0), seq_next (tb2 hp0), seq_ret (tb3 hs e c1 k2)]
        · have m1 : CMulA Y Y := mulA b64 b64 (by decide)
          have m2 : CMulA (Y * Y) Y := mulA (b64.mul b64) b64 (by decide)
          have n1 : CModA (c.natAbs : Int) (Y * Y * Y) := by
            have := z192
            unfold CModA
            omega
          obtain ⟨w1, w2⟩ := fmod_range (a := (c.natAbs : Int)) z192
          have w3 := bt_of (k := 700) w1 w2 (Nat.le_of_lt (Bt.mono ((b64.mul b64).mul b64) (by decide)))
          generalize hW : (c.natAbs : Int).fmod (Y * Y * Y) = W at w1 w2 w3
          obtain ⟨r, C', P', e1, e2, e3⟩ := take_rest F hF (cs := cs) (v1 := W) (v2 := v2) (v3 := v3) (v4 := v4) (x := some (.int (c.natAbs : Int))) (R := R) hm hm2 hn (fun x hx => hcs x (by simp [hx])) ⟨w1, w3⟩ h2 h3
          refine ⟨r, C', P', ?_, e2, e3⟩
          rw [seq_next (ρ' := [some (.lst 1), some (.int m), some (.int (c.natAbs : Int)), none]) (S' := cs.map D.int :: [.lst 0, .int W, .int v2, .int v3, .int v4] :: R)]
          · exact e1
          · have hl0 := hlen (c :: cs)
            have hp0 := pop_ok (c := c) (cs := cs) (P := [.lst 0, .int 0, .int v2, .int v3, .int v4]) (R := R)
            simp only [List.map_cons, List.length_cons, Int.natCast_add, Int.cast_ofNat_Int] at hl0 hp0
            rw [List.map_cons, if_t (tb1 hl1 hl0), seq_next (tb2 hp0), seq_next (tb4 hs), tb5 m1 m2 n1 hW]
    · obtain ⟨r, C', P', e1, e2, e3⟩ := take_rest F hF (cs := cs) (v1 := v1) (v2 := v2) (v3 := v3) (v4 := v4) (x := none) (R := R) hm hm2 hn hcs h1 h2 h3
      refine ⟨r, C', P', ?_, e2, e3⟩
      rw [seq_next (ρ' := [some (.lst 1), some (.int m), none, none]) (S' := cs.map D.int :: [.lst 0, .int v1, .int v2, .int v3, .int v4] :: R)]
      · exact e1
      · by_cases hv : v1 = 0
        · have hc : cs = [] := by
            by_cases q : cs = []
            · exact q
            · exact absurd ⟨hv, q⟩ hp
          subst hc hv
          have hl0 := hlen []
          simp only [List.map_nil] at hl0
          simp [eVar, eC, eB, eU, eL, boolOf, eTest, eNotT, eAndT, eOrT, eNot, eAnd, eOr, eIf, aNil, aCons, eTup, eLst, eChain, sSkip, sSeq, sAsg, sPar, sExpr, sRet, sRetN, sIf, sBrk, sCont, sSub, eCall, eKw, runDef, begins, dI0, dI, dSub, dLt, dLe, dGt, dGe, dNeg, dInt, dAbs, dGcd, dDiv, dMod, sBind, bTup, bCons, bNil, bName, eMt, iSeq, iRange, ofRes, flowRes, srcOf, at0, at1, hl0]
        · simp [eVar, eC, eB, eU, eL, boolOf, eTest, eNotT, eAndT, eOrT, eNot, eAnd, eOr, eIf, aNil, aCons, eTup, eLst, eChain, sSkip, sSeq, sAsg, sPar, sExpr, sRet, sRetN, sIf, sBrk, sCont, sSub, eCall, eKw, runDef, begins, dI0, dI, dSub, dLt, dLe, dGt, dGe, dNeg, dInt, dAbs, dGcd, dDiv, dMod, sBind, bTup, bCons, bNil, bName, eMt, iSeq, iRange, ofRes, flowRes, srcOf, at1, hv]
end LawM
end
section
set_option Elab.async false
set_option linter.all false
set_option maxRecDepth 100000
set_option maxHeartbeats 1000000
/-! P8: drawing. -/
namespace LawM
open PySem PySem.Spec PyProof.Rows L2 MP
def TakeOk (F : List D → Sto → Res D) : Prop := ∀ (C P : List D) (n m : Nat) (R : Sto), Pl C P n → 0 < m → m < 2 ^ 60 → n < 2 ^ 60 → ∃ (r : Nat) (C' P' : List D), F [.lst 1, .int (m : Int)] (C :: P :: R) = .ok (.int (r : Int)) (C' :: P' :: R) ∧ r < m ∧ Pl C' P' (n + 1)
theorem take_is : TakeOk rf__law_take := fun C P n m R h a b c => take_ok h a b c
def LowOk (F : List D → Sto → Res D) : Prop := ∀ (a b : Int) (S : Sto), 0 < b → b.natAbs < 2 ^ 8990 → F [.int a, .int b] S = .ok (dq (low a b)) S
theorem low_is : LowOk rf__law_low := fun a b S h k => lawlow_ok h k
theorem Pl.mono {C P : List D} {n m : Nat} (h : Pl C P n) (k : n ≤ m) : Pl C P m := by
  obtain ⟨cs, v1, v2, v3, v4, a, b, c, d, e, f⟩ := h.ex
  exact ⟨cs, v1, v2, v3, v4, a, b, c, d, ⟨e.1, by omega⟩, f⟩
theorem ret_asg {e : Ev} {ρ : MP.Env} {S S' : Sto} {d : D} {i : Nat} (h : e ρ S = .ok d S') : sAsg i e ρ S = .next (ρ.set i (some d)) S' := by
  unfold sAsg
  rw [h]
  rfl
theorem ret_ret {e : Ev} {ρ : MP.Env} {S S' : Sto} {d : D} (h : e ρ S = .ok d S') : sRet e ρ S = .ret d S' := by
  unfold sRet
  rw [h]
  rfl
theorem b_ok {g : Op2} {a b : Ev} {ρ : MP.Env} {S S1 S2 S3 : Sto} {x y z : D} (h1 : a ρ S = .ok x S1) (h2 : b ρ S1 = .ok y S2) (h3 : g x y S2 = some (z, S3)) : eB g a b ρ S = .ok z S3 := by
  unfold eB
  rw [h1, Res.bind_ok, h2, Res.bind_ok, h3, lift_some]
theorem call1 {F : List D → Sto → Res D} {a : Ev} {ρ : MP.Env} {S S1 : Sto} {x : D} (h1 : a ρ S = .ok x S1) : eCall 1 F (aCons a aNil) ρ S = F [x] S1 := by
  simp [eCall, aCons, aNil, h1]
theorem call2 {F : List D → Sto → Res D} {a b : Ev} {ρ : MP.Env} {S S1 S2 : Sto} {x y : D} (h1 : a ρ S = .ok x S1) (h2 : b ρ S1 = .ok y S2) : eCall 2 F (aCons a (aCons b aNil)) ρ S = F [x, y] S2 := by
  simp [eCall, aCons, aNil, h1, h2]
theorem call3 {F : List D → Sto → Res D} {a b c : Ev} {ρ : MP.Env} {S S1 S2 S3 : Sto} {x y z : D} (h1 : a ρ S = .ok x S1) (h2 : b ρ S1 = .ok y S2) (h3 : c ρ S2 = .ok z S3) : eCall 3 F (aCons a (aCons b (aCons c aNil))) ρ S = F [x, y, z] S3 := by
  simp [eCall, aCons, aNil, h1, h2, h3]
theorem call4 {F : List D → Sto → Res D} {a b c d : Ev} {ρ : MP.Env} {S S1 S2 S3 S4 : Sto} {x y z w : D} (h1 : a ρ S = .ok x S1) (h2 : b ρ S1 = .ok y S2) (h3 : c ρ S2 = .ok z S3) (h4 : d ρ S3 = .ok w S4) : eCall 4 F (aCons a (aCons b (aCons c (aCons d aNil)))) ρ S = F [x, y, z, w] S4 := by
  simp [eCall, aCons, aNil, h1, h2, h3, h4]
theorem var_ok {i : Nat} {ρ : MP.Env} {S : Sto} {d : D} (h : ρ[i]? = some (some d)) : eVar i ρ S = .ok d S := by
  unfold eVar
  rw [h]
theorem c_ok {ρ : MP.Env} {S : Sto} {d : D} : eC d ρ S = .ok d S := rfl
/-- a taking, as an expression -/
theorem tk_ok {F : List D → Sto → Res D} (hF : TakeOk F) {C P : List D} {n : Nat} {R : Sto} {ρ : MP.Env} {e : Ev} {m : Nat} (h : Pl C P n) (h0 : ρ[0]? = some (some (.lst 1))) (he : ∀ S, e ρ S = .ok (.int (m : Int)) S) (hm : 0 < m) (hm2 : m < 2 ^ 60) (hn : n < 2 ^ 60) :
    ∃ (r : Nat) (C' P' : List D), eCall 2 F (aCons (eVar 0) (aCons e aNil)) ρ (C :: P :: R) = .ok (.int (r : Int)) (C' :: P' :: R) ∧ r < m ∧ Pl C' P' (n + 1) := by
  obtain ⟨r, C', P', e1, e2, e3⟩ := hF C P n m R h hm hm2 hn
  exact ⟨r, C', P', by rw [call2 (var_ok h0) (he _), e1], e2, e3⟩
theorem new_at {C P L : List D} {R : Sto} : (C :: P :: (R ++ [L]))[R.length + 2]? = some L := by
  simp
theorem of4 {a b c d : Int} {r : Nat} (h : r < 4) : ∃ x : Int, [D.int a, .int b, .int c, .int d][r]? = some (.int x) ∧ (x = a ∨ x = b ∨ x = c ∨ x = d) := by
  match r, h with
  | 0, _ => exact ⟨a, rfl, .inl rfl⟩
  | 1, _ => exact ⟨b, rfl, .inr (.inl rfl)⟩
  | 2, _ => exact ⟨c, rfl, .inr (.inr (.inl rfl))⟩
  | 3, _ => exact ⟨d, rfl, .inr (.inr (.inr rfl))⟩
/-- four ints in a list -/
theorem lst4 {e1 e2 e3 e4 : Ev} {a b c d : Int} {ρ : MP.Env} {C P : List D} {R : Sto} (h1 : ∀ S, e1 ρ S = .ok (.int a) S) (h2 : ∀ S, e2 ρ S = .ok (.int b) S) (h3 : ∀ S, e3 ρ S = .ok (.int c) S) (h4 : ∀ S, e4 ρ S = .ok (.int d) S) :
    eLst (aCons e1 (aCons e2 (aCons e3 (aCons e4 aNil)))) ρ (C :: P :: R) = .ok (.lst (R.length + 2)) (C :: P :: (R ++ [[.int a, .int b, .int c, .int d]])) := by
  simp [eLst, eL, aCons, aNil, h1, h2, h3, h4, dLst_ok]
theorem pw_ok {k : Nat} {X : Int} {ρ : MP.Env} {S : Sto} (hk : k ≤ 1000) (hX : X = 10 ^ k) : eB dPow (eC (.int 10)) (eC (.int (k : Int))) ρ S = .ok (.int X) S := by
  rw [hX]
  exact b_ok c_ok c_ok (pow10 k hk)
theorem pwa_ok {k : Nat} {X y : Int} {ρ : MP.Env} {S : Sto} (hk : k ≤ 1000) (hX : X = 10 ^ k) : eB dAdd (eB dPow (eC (.int 10)) (eC (.int (k : Int)))) (eC (.int y)) ρ S = .ok (.int (X + y)) S :=
  b_ok (pw_ok hk hX) c_ok rfl
theorem sub_ok {a b : Ev} {ρ : MP.Env} {S S1 S2 : Sto} {x y : Int} (h1 : a ρ S = .ok (.int x) S1) (h2 : b ρ S1 = .ok (.int y) S2) : eB dSub a b ρ S = .ok (.int (x - y)) S2 := b_ok h1 h2 rfl
theorem add_ok {a b : Ev} {ρ : MP.Env} {S S1 S2 : Sto} {x y : Int} (h1 : a ρ S = .ok (.int x) S1) (h2 : b ρ S1 = .ok (.int y) S2) : eB dAdd a b ρ S = .ok (.int (x + y)) S2 := b_ok h1 h2 rfl
theorem mul_ok {a b : Ev} {ρ : MP.Env} {S S1 S2 : Sto} {x y : Int} (c : CMulA x y) (h1 : a ρ S = .ok (.int x) S1) (h2 : b ρ S1 = .ok (.int y) S2) : eB dMul a b ρ S = .ok (.int (x * y)) S2 := b_ok h1 h2 (dMul_int c)
def Drawn (r : Res D) (R : Sto) (β n : Nat) : Prop := ∃ (q : Int × Int) (C' P' : List D) (G : Sto), r = .ok (dq q) (C' :: P' :: (R ++ G)) ∧ Qu q ∧ Bt q.1 β ∧ Bt q.2 β ∧ Pl C' P' n
theorem bt_nat {r m k : Nat} (h : r < m) (hk : m ≤ 2 ^ k) : Bt (r : Int) k := by
  unfold Bt
  simp only [Int.natAbs_natCast]
  omega
theorem bt10 (k : Nat) (a : Nat) (h : 10 ^ k < 2 ^ a) : Bt ((10 : Int) ^ k) a := by
  unfold Bt
  rw [Int.natAbs_pow]
  exact h
section
variable {F G : List D → Sto → Res D} {C P : List D} {n : Nat} {R : Sto}
theorem draw1 (hF : TakeOk F) (hG : LowOk G) (h : Pl C P n) (hn : n < 2 ^ 50) {E59 E58 E57 E30 E29 : Int} (p59 : E59 = 10 ^ 59) (p58 : E58 = 10 ^ 58) (p57 : E57 = 10 ^ 57) (p30 : E30 = 10 ^ 30) (p29 : E29 = 10 ^ 29)
   (b59 : Bt E59 200 ∧ 0 < E59) (b58 : Bt E58 200 ∧ 0 < E58) (b57 : Bt E57 200 ∧ 0 < E57) (b30 : Bt E30 200 ∧ 0 < E30) (b29 : Bt E29 200 ∧ 0 < E29) : Drawn (flowRes ((sSeq (sAsg 2 (eLst (aCons (eB dPow (eC (.int 10)) (eC (.int 59))) (aCons (eB dAdd (eB dPow (eC (.int 10)) (eC (.int 58))) (eC (.int 1))) (aCons (eB dPow (eC (.int 10)) (eC (.int 30))) (aCons (eC (.int 7)) aNil))))))
 (sSeq (sAsg 3 (eB dAdd (eB dIx (eVar 2) (eCall 2 F (aCons (eVar 0) (aCons (eC (.int 4)) aNil)))) (eCall 2 F (aCons (eVar 0) (aCons (eC (.int 9999)) aNil)))))
 (sSeq (sAsg 4 (eB dAdd (eB dIx (eLst (aCons (eB dPow (eC (.int 10)) (eC (.int 59))) (aCons (eB dAdd (eB dPow (eC (.int 10)) (eC (.int 57))) (eC (.int 3))) (aCons (eB dPow (eC (.int 10)) (eC (.int 29))) (aCons (eC (.int 1)) aNil))))) (eCall 2 F (aCons (eVar 0) (aCons (eC (.int 4)) aNil)))) (eCall 2 F (aCons (eVar 0) (aCons (eC (.int 9999)) aNil)))))
 (sRet (eCall 2 G (aCons (eB dSub (eVar 3) (eB dMul (eB dMul (eC (.int 2)) (eVar 3)) (eCall 2 F (aCons (eVar 0) (aCons (eC (.int 2)) aNil))))) (aCons (eVar 4) aNil)))))))
   [some (.lst 1), some (.int 1), none, none, none, none] (C :: P :: R))) R 220 (n + 5) := by
  have q1 : ∀ S ρ, eLst (aCons (eB dPow (eC (.int 10)) (eC (.int 59))) (aCons (eB dAdd (eB dPow (eC (.int 10)) (eC (.int 58))) (eC (.int 1))) (aCons (eB dPow (eC (.int 10)) (eC (.int 30))) (aCons (eC (.int 7)) aNil)))) ρ (C :: P :: S) = .ok (.lst (S.length + 2)) (C :: P :: (S ++ [[.int E59, .int (E58 + 1), .int E30, .int 7]])) :=
    fun S ρ => lst4 (fun S => pw_ok (k := 59) (by decide) p59) (fun S => pwa_ok (k := 58) (by decide) p58) (fun S => pw_ok (k := 30) (by decide) p30) (fun S => c_ok)
  have q2 : ∀ C P S ρ, eLst (aCons (eB dPow (eC (.int 10)) (eC (.int 59))) (aCons (eB dAdd (eB dPow (eC (.int 10)) (eC (.int 57))) (eC (.int 3))) (aCons (eB dPow (eC (.int 10)) (eC (.int 29))) (aCons (eC (.int 1)) aNil)))) ρ (C :: P :: S) = .ok (.lst (S.length + 2)) (C :: P :: (S ++ [[.int E59, .int (E57 + 3), .int E29, .int 1]])) :=
    fun C P S ρ => lst4 (fun S => pw_ok (k := 59) (by decide) p59) (fun S => pwa_ok (k := 57) (by decide) p57) (fun S => pw_ok (k := 29) (by decide) p29) (fun S => c_ok)
  clear p59 p58 p57 p30 p29
  rw [seq_next (ret_asg (q1 R _))]
  generalize hR1 : R ++ [[D.int E59, .int (E58 + 1), .int E30, .int 7]] = R1
  have at1 : ∀ C P, (C :: P :: R1)[R.length + 2]? = some [D.int E59, .int (E58 + 1), .int E30, .int 7] := fun C P => by rw [← hR1]; exact new_at
  obtain ⟨r1, C1, P1, e1, l1, h1⟩ := tk_ok hF (R := R1) (ρ := [some (.lst 1), some (.int 1), some (.lst (R.length + 2)), none, none, none]) (e := eC (.int 4)) (m := 4) h rfl (fun S => rfl) (by decide) (by decide) (by omega)
  obtain ⟨r2, C2, P2, e2, l2, h2⟩ := tk_ok hF (R := R1) (ρ := [some (.lst 1), some (.int 1), some (.lst (R.length + 2)), none, none, none]) (e := eC (.int 9999)) (m := 9999) h1 rfl (fun S => rfl) (by decide) (by decide) (by omega)
  obtain ⟨x, hx, kx⟩ := of4 (a := E59) (b := E58 + 1) (c := E30) (d := 7) l1
  rw [show List.set [some (D.lst 1), some (D.int 1), none, none, none, none] 2 (some (D.lst (R.length + 2))) = [some (.lst 1), some (.int 1), some (.lst (R.length + 2)), none, none, none] from rfl]
  rw [seq_next (ret_asg (add_ok (b_ok (var_ok (d := .lst (R.length + 2)) rfl) e1 (ix_lst (at1 _ _) hx)) e2))]
  rw [show List.set [some (D.lst 1), some (D.int 1), some (.lst (R.length + 2)), none, none, none] 3 (some (D.int (x + (r2 : Int)))) = [some (.lst 1), some (.int 1), some (.lst (R.length + 2)), some (.int (x + (r2 : Int))), none, none] from rfl]
  generalize hρ : [some (D.lst 1), some (D.int 1), some (D.lst (R.length + 2)), some (D.int (x + (r2 : Int))), none, none] = ρ
  have r0 : ρ[0]? = some (some (.lst 1)) := by rw [← hρ]; rfl
  generalize hR2 : R1 ++ [[D.int E59, .int (E57 + 3), .int E29, .int 1]] = R2
  have at2 : ∀ C P, (C :: P :: R2)[R1.length + 2]? = some [D.int E59, .int (E57 + 3), .int E29, .int 1] := fun C P => by rw [← hR2]; exact new_at
  obtain ⟨r3, C3, P3, e3, l3, h3⟩ := tk_ok hF (R := R2) (ρ := ρ) (e := eC (.int 4)) (m := 4) h2 r0 (fun S => rfl) (by decide) (by decide) (by omega)
  obtain ⟨r4, C4, P4, e4, l4, h4⟩ := tk_ok hF (R := R2) (ρ := ρ) (e := eC (.int 9999)) (m := 9999) h3 r0 (fun S => rfl) (by decide) (by decide) (by omega)
  obtain ⟨y, hy, ky⟩ := of4 (a := E59) (b := E57 + 3) (c := E29) (d := 1) l3
  rw [seq_next (ret_asg (add_ok (b_ok ((q2 _ _ R1 ρ).trans (by rw [hR2])) e3 (ix_lst (at2 _ _) hy)) e4))]
  have r0' : (ρ.set 4 (some (D.int (y + (r4 : Int)))))[0]? = some (some (.lst 1)) := by rw [← hρ]; rfl
  have r3' : (ρ.set 4 (some (D.int (y + (r4 : Int)))))[3]? = some (some (.int (x + (r2 : Int)))) := by rw [← hρ]; rfl
  have r4' : (ρ.set 4 (some (D.int (y + (r4 : Int)))))[4]? = some (some (.int (y + (r4 : Int)))) := by rw [← hρ]; rfl
  obtain ⟨r5, C5, P5, e5, l5, h5⟩ := tk_ok hF (R := R2) (ρ := ρ.set 4 (some (D.int (y + (r4 : Int))))) (e := eC (.int 2)) (m := 2) h4 r0' (fun S => rfl) (by decide) (by decide) (by omega)
  have bx : Bt x 202 ∧ 0 < x := by
    have o7 : Bt (7 : Int) 200 := by unfold Bt; decide
    have o1 : Bt (1 : Int) 200 := by unfold Bt; decide
    rcases kx with rfl | rfl | rfl | rfl
    · exact ⟨b59.1.mono (by decide), b59.2⟩
    · exact ⟨(b58.1.add o1).mono (by decide), by omega⟩
    · exact ⟨b30.1.mono (by decide), b30.2⟩
    · exact ⟨o7.mono (by decide), by decide⟩
  have by' : Bt y 202 ∧ 0 < y := by
    have o3 : Bt (3 : Int) 200 := by unfold Bt; decide
    have o1 : Bt (1 : Int) 200 := by unfold Bt; decide
    rcases ky with rfl | rfl | rfl | rfl
    · exact ⟨b59.1.mono (by decide), b59.2⟩
    · exact ⟨(b57.1.add o3).mono (by decide), by omega⟩
    · exact ⟨b29.1.mono (by decide), b29.2⟩
    · exact ⟨o1.mono (by decide), by decide⟩
  have bt : Bt (x + (r2 : Int)) 203 := bx.1.add ((bt_nat (k := 14) l2 (by decide)).mono (by decide))
  have bb : Bt (y + (r4 : Int)) 203 := by'.1.add ((bt_nat (k := 14) l4 (by decide)).mono (by decide))
  have b2 : Bt (2 : Int) 2 := by unfold Bt; decide
  have b5 : Bt (r5 : Int) 1 := bt_nat l5 (by decide)
  have m1 := mulA b2 bt (by decide)
  have m2 := mulA (b2.mul bt) b5 (by decide)
  have hb : 0 < y + (r4 : Int) := by omega
  rw [ret_ret ((call2 (sub_ok (var_ok r3') (mul_ok m2 (mul_ok m1 c_ok (var_ok r3')) e5)) (var_ok r4')).trans (hG _ _ _ hb (bb.mono (show 203 ≤ 8990 by omega))))]
  refine ⟨low (x + (r2 : Int) - 2 * (x + (r2 : Int)) * (r5 : Int)) (y + (r4 : Int)), C5, P5, [[.int E59, .int (E58 + 1), .int E30, .int 7], [.int E59, .int (E57 + 3), .int E29, .int 1]], ?_, ?_, ?_, ?_, h5⟩
  · rw [← hR2, ← hR1]
    simp
  · obtain ⟨g, -, -, -, -, -, hq⟩ := low_spec (a := x + (r2 : Int) - 2 * (x + (r2 : Int)) * (r5 : Int)) hb
    exact hq
  · refine (low_bt (k := 207) hb ?_).mono (by decide)
    rw [Int.sub_eq_add_neg]
    exact (bt.mono (by decide)).add (((b2.mul bt).mul b5).neg.mono (by decide))
  · exact (low_bt2 hb bb).mono (by decide)
theorem draw2 (hF : TakeOk F) (hG : LowOk G) (h : Pl C P n) (hn : n < 2 ^ 50) {E60 E59 : Int} (p60 : E60 = 10 ^ 60) (p59 : E59 = 10 ^ 59) (b60 : Bt E60 200) (b59 : Bt E59 197) (bH : Bt (E60 * E60 * E60 * E60 * E59) 994) (gH : 9999 < E60 * E60 * E60 * E60 * E59) :
   Drawn (flowRes ((sSeq (sAsg 5 (eB dMul (eB dMul (eB dMul (eB dMul (eB dPow (eC (.int 10)) (eC (.int 60))) (eB dPow (eC (.int 10)) (eC (.int 60)))) (eB dPow (eC (.int 10)) (eC (.int 60)))) (eB dPow (eC (.int 10)) (eC (.int 60)))) (eB dPow (eC (.int 10)) (eC (.int 59)))))
 (sRet (eCall 2 G (aCons (eB dSub (eCall 2 F (aCons (eVar 0) (aCons (eC (.int 9999)) aNil))) (eVar 5)) (aCons (eB dSub (eB dMul (eC (.int 9)) (eVar 5)) (eCall 2 F (aCons (eVar 0) (aCons (eC (.int 9999)) aNil)))) aNil)))))
   [some (.lst 1), some (.int 2), none, none, none, none] (C :: P :: R))) R 1000 (n + 5) := by
  have q : ∀ S ρ, eB dPow (eC (.int 10)) (eC (.int 60)) ρ S = .ok (.int E60) S := fun S ρ => pw_ok (k := 60) (by decide) p60
  have q' : ∀ S ρ, eB dPow (eC (.int 10)) (eC (.int 59)) ρ S = .ok (.int E59) S := fun S ρ => pw_ok (k := 59) (by decide) p59
  clear p60 p59
  have m1 := mulA b60 b60 (by decide)
  have m2 := mulA (b60.mul b60) b60 (by decide)
  have m3 := mulA ((b60.mul b60).mul b60) b60 (by decide)
  have m4 := mulA (((b60.mul b60).mul b60).mul b60) b59 (by decide)
  rw [seq_next (ret_asg (mul_ok m4 (mul_ok m3 (mul_ok m2 (mul_ok m1 (q _ _) (q _ _)) (q _ _)) (q _ _)) (q' _ _)))]
  generalize E60 * E60 * E60 * E60 * E59 = H at bH gH
  generalize hρ : List.set [some (D.lst 1), some (D.int 2), none, none, none, none] 5 (some (D.int H)) = ρ
  have r0 : ρ[0]? = some (some (.lst 1)) := by rw [← hρ]; rfl
  have r5 : ρ[5]? = some (some (.int H)) := by rw [← hρ]; rfl
  obtain ⟨a, C1, P1, e1, l1, h1⟩ := tk_ok hF (R := R) (ρ := ρ) (e := eC (.int 9999)) (m := 9999) h r0 (fun S => rfl) (by decide) (by decide) (by omega)
  obtain ⟨b, C2, P2, e2, l2, h2⟩ := tk_ok hF (R := R) (ρ := ρ) (e := eC (.int 9999)) (m := 9999) h1 r0 (fun S => rfl) (by decide) (by decide) (by omega)
  have b9 : Bt (9 : Int) 4 := by unfold Bt; decide
  have m9 := mulA b9 bH (by decide)
  have hb : 0 < 9 * H - (b : Int) := by omega
  have bb : Bt (9 * H - (b : Int)) 999 := by
    rw [Int.sub_eq_add_neg]
    exact (b9.mul bH).add ((bt_nat (k := 14) l2 (by decide)).neg.mono (by decide))
  rw [ret_ret ((call2 (sub_ok e1 (var_ok r5)) (sub_ok (mul_ok m9 c_ok (var_ok r5)) e2)).trans (hG _ _ _ hb (bb.mono (show 999 ≤ 8990 by omega))))]
  refine ⟨low ((a : Int) - H) (9 * H - (b : Int)), C2, P2, [], ?_, ?_, ?_, ?_, h2.mono (by omega)⟩
  · simp
  · obtain ⟨g, -, -, -, -, -, hq⟩ := low_spec (a := (a : Int) - H) hb
    exact hq
  · refine (low_bt (k := 995) hb ?_).mono (by decide)
    rw [Int.sub_eq_add_neg]
    exact ((bt_nat (k := 14) l1 (by decide)).mono (by decide)).add bH.neg
  · exact (low_bt2 hb bb).mono (by decide)
end
end LawM
end
section
set_option Elab.async false
set_option linter.all false
set_option maxRecDepth 100000
set_option maxHeartbeats 1000000
/-! P9: rows. -/
namespace LawM
open PySem PySem.Spec PyProof.Rows L2 MP
theorem ret_of {F : MP.Flow} {q : Int × Int} {S : Sto} (h : flowRes F = .ok (dq q) S) : F = .ret (dq q) S := by
  cases F with
  | ret d S' => cases h; rfl
  | next ρ S' => unfold dq at h; cases h
  | brk ρ S' => cases h
  | cont ρ S' => cases h
  | exc a b c d e => cases h
  | stuck => cases h
theorem if_s {t : EvB} {a : Es} {ρ : MP.Env} {S S' : Sto} (h : t ρ S = .ok false S') : sIf t a sSkip ρ S = .next ρ S' := by
  rw [if_f h]
  rfl
theorem test_ok {e : Ev} {ρ : MP.Env} {S S' : Sto} {b : Bool} (h : e ρ S = .ok (.bl b) S') : eTest e ρ S = .ok b S' := by
  unfold eTest
  rw [h]
  rfl
theorem eq_ok {a b : Ev} {ρ : MP.Env} {S S1 S2 : Sto} {x y : Int} (h1 : a ρ S = .ok (.int x) S1) (h2 : b ρ S1 = .ok (.int y) S2) : eB dEq a b ρ S = .ok (.bl (decide (x = y))) S2 := b_ok h1 h2 dEq_int
theorem gt_ok {a b : Ev} {ρ : MP.Env} {S S1 S2 : Sto} {x y : Int} (h1 : a ρ S = .ok (.int x) S1) (h2 : b ρ S1 = .ok (.int y) S2) : eB dGt a b ρ S = .ok (.bl (decide (y < x))) S2 := b_ok h1 h2 rfl
def seven : List (Int × Int) := [(1, 2), (0, 1), (-1, 3), (1, 1), (-1, 1), (2, 3), (5, 1)]
theorem seven_ok : ∀ r, r < 7 → ∃ q, (seven.map dq)[r]? = some (dq q) ∧ Qu q ∧ Bt q.1 8 ∧ Bt q.2 8
  | 0, _ => ⟨(1, 2), rfl, ⟨by decide, by decide⟩, by unfold Bt; decide, by unfold Bt; decide⟩
  | 1, _ => ⟨(0, 1), rfl, ⟨by decide, by decide⟩, by unfold Bt; decide, by unfold Bt; decide⟩
  | 2, _ => ⟨(-1, 3), rfl, ⟨by decide, by decide⟩, by unfold Bt; decide, by unfold Bt; decide⟩
  | 3, _ => ⟨(1, 1), rfl, ⟨by decide, by decide⟩, by unfold Bt; decide, by unfold Bt; decide⟩
  | 4, _ => ⟨(-1, 1), rfl, ⟨by decide, by decide⟩, by unfold Bt; decide, by unfold Bt; decide⟩
  | 5, _ => ⟨(2, 3), rfl, ⟨by decide, by decide⟩, by unfold Bt; decide, by unfold Bt; decide⟩
  | 6, _ => ⟨(5, 1), rfl, ⟨by decide, by decide⟩, by unfold Bt; decide, by unfold Bt; decide⟩
section
variable {F G : List D → Sto → Res D} {C P : List D} {n : Nat} {R : Sto}
theorem draw0 (hF : TakeOk F) (hG : LowOk G) (h : Pl C P n) (hn : n < 2 ^ 50) : Drawn (flowRes ((sSeq (sIf (eTest (eB dEq (eCall 2 F (aCons (eVar 0) (aCons (eC (.int 3)) aNil))) (eC (.int 2))))
 (sRet (eB dIx (eLst (aCons (eTup (aCons (eC (.int 1)) (aCons (eC (.int 2)) aNil))) (aCons (eTup (aCons (eC (.int 0)) (aCons (eC (.int 1)) aNil))) (aCons (eTup (aCons (eU dNeg (eC (.int 1))) (aCons (eC (.int 3)) aNil))) (aCons (eTup (aCons (eC (.int 1)) (aCons (eC (.int 1)) aNil))) (aCons (eTup (aCons (eU dNeg (eC (.int 1))) (aCons (eC (.int 1)) aNil))) (aCons (eTup (aCons (eC (.int 2)) (aCons (eC (.int 3)) aNil))) (aCons (eTup (aCons (eC (.int 5)) (aCons (eC (.int 1)) aNil))) aNil)))))))) (eCall 2 F (aCons (eVar 0) (aCons (eC (.int 7)) aNil)))))
 sSkip)
 (sRet (eCall 2 G (aCons (eB dSub (eCall 2 F (aCons (eVar 0) (aCons (eC (.int 31)) aNil))) (eC (.int 15))) (aCons (eB dAdd (eC (.int 1)) (eCall 2 F (aCons (eVar 0) (aCons (eC (.int 16)) aNil)))) aNil)))))
   [some (.lst 1), some (.int 0), none, none, none, none] (C :: P :: R))) R 8 (n + 5) := by
  have q1 : ∀ C P S ρ, eLst (aCons (eTup (aCons (eC (.int 1)) (aCons (eC (.int 2)) aNil))) (aCons (eTup (aCons (eC (.int 0)) (aCons (eC (.int 1)) aNil))) (aCons (eTup (aCons (eU dNeg (eC (.int 1))) (aCons (eC (.int 3)) aNil))) (aCons (eTup (aCons (eC (.int 1)) (aCons (eC (.int 1)) aNil))) (aCons (eTup (aCons (eU dNeg (eC (.int 1))) (aCons (eC (.int 1)) aNil))) (aCons (eTup (aCons (eC (.int 2)) (aCons (eC (.int 3)) aNil))) (aCons (eTup (aCons (eC (.int 5)) (aCons (eC (.int 1)) aNil))) aNil))))))) ρ (C :: P :: S) = .ok (.lst (S.length + 2)) (C :: P :: (S ++ [seven.map dq])) := fun C P S ρ => by
    simp [eLst, eL, eTup, eU, eC, dNeg, aCons, aNil, dTup_ok, dLst_ok, seven, dq]
  generalize hρ : [some (D.lst 1), some (D.int 0), none, none, none, none] = ρ
  have r0 : ρ[0]? = some (some (.lst 1)) := by rw [← hρ]; rfl
  obtain ⟨a, C1, P1, e1, l1, h1⟩ := tk_ok hF (R := R) (ρ := ρ) (e := eC (.int 3)) (m := 3) h r0 (fun S => rfl) (by decide) (by decide) (by omega)
  by_cases hc : (a : Int) = 2
  · generalize hR2 : R ++ [seven.map dq] = R2
    have at2 : ∀ C P, (C :: P :: R2)[R.length + 2]? = some (seven.map dq) := fun C P => by rw [← hR2]; exact new_at
    obtain ⟨b, C2, P2, e2, l2, h2⟩ := tk_ok hF (R := R2) (ρ := ρ) (e := eC (.int 7)) (m := 7) h1 r0 (fun S => rfl) (by decide) (by decide) (by omega)
    obtain ⟨q, hq, k1, k2, k3⟩ := seven_ok b l2
    have ht : eTest (eB dEq (eCall 2 F (aCons (eVar 0) (aCons (eC (.int 3)) aNil))) (eC (.int 2))) ρ (C :: P :: R) = .ok true (C1 :: P1 :: R) := test_ok ((eq_ok e1 c_ok).trans (by rw [decide_eq_true hc]))
    refine ⟨q, C2, P2, [seven.map dq], ?_, k1, k2, k3, h2.mono (by omega)⟩
    rw [seq_ret ((if_t ht).trans (ret_ret (b_ok ((q1 _ _ R ρ).trans (by rw [hR2])) e2 (ix_lst (at2 _ _) hq)))), hR2]
    rfl
  · have ht : eTest (eB dEq (eCall 2 F (aCons (eVar 0) (aCons (eC (.int 3)) aNil))) (eC (.int 2))) ρ (C :: P :: R) = .ok false (C1 :: P1 :: R) := test_ok ((eq_ok e1 c_ok).trans (by rw [decide_eq_false hc]))
    obtain ⟨b, C2, P2, e2, l2, h2⟩ := tk_ok hF (R := R) (ρ := ρ) (e := eC (.int 31)) (m := 31) h1 r0 (fun S => rfl) (by decide) (by decide) (by omega)
    obtain ⟨d, C3, P3, e3, l3, h3⟩ := tk_ok hF (R := R) (ρ := ρ) (e := eC (.int 16)) (m := 16) h2 r0 (fun S => rfl) (by decide) (by decide) (by omega)
    have hb : 0 < 1 + (d : Int) := by omega
    have bb : Bt (1 + (d : Int)) 6 := by unfold Bt; omega
    have ba : Bt ((b : Int) - 15) 6 := by unfold Bt; omega
    refine ⟨low ((b : Int) - 15) (1 + (d : Int)), C3, P3, [], ?_, ?_, (low_bt hb ba).mono (by decide), (low_bt2 hb bb).mono (by decide), h3.mono (by omega)⟩
    · rw [seq_next (if_s ht), ret_ret ((call2 (sub_ok e2 c_ok) (add_ok c_ok e3)).trans (hG _ _ _ hb (bb.mono (show 6 ≤ 8990 by omega))))]
      simp
    · obtain ⟨g, -, -, -, -, -, hq⟩ := low_spec (a := (b : Int) - 15) hb
      exact hq
end
def Kind (s n β : Nat) : Prop := (s = 0 ∧ n ≤ 40 ∧ β = 8) ∨ (s = 1 ∧ n ≤ 9 ∧ β = 220) ∨ (s = 2 ∧ n = 4 ∧ β = 1000)
def DrawOk (D' : List D → Sto → Res D) : Prop := ∀ (s n β : Nat), Kind s n β → ∀ (C P : List D) (N : Nat) (R : Sto), Pl C P N → N < 2 ^ 50 → Drawn (D' [.lst 1, .int (s : Int)] (C :: P :: R)) R β (N + 5)
theorem drawn_ret {F : MP.Flow} {B : Es} {X : Es} {ρ : MP.Env} {S : Sto} {R : Sto} {β n : Nat} (h : Drawn (flowRes (X ρ S)) R β n) : Drawn (flowRes (sSeq X B ρ S)) R β n := by
  obtain ⟨q, C', P', G, e, a⟩ := h
  refine ⟨q, C', P', G, ?_, a⟩
  rw [seq_ret (ret_of e)]
  rfl
theorem draw_is : DrawOk rf__law_draw := fun s n β k C P N R h hN => by
  have b59 : ∀ X : Int, X = 10 ^ 59 → Bt X 197 ∧ 0 < X := fun X hX => by rw [hX]; exact ⟨bt10 59 197 (by decide +kernel), by decide +kernel⟩
  have b58 : ∀ X : Int, X = 10 ^ 58 → Bt X 200 ∧ 0 < X := fun X hX => by rw [hX]; exact ⟨bt10 58 200 (by decide +kernel), by decide +kernel⟩
  have b57 : ∀ X : Int, X = 10 ^ 57 → Bt X 200 ∧ 0 < X := fun X hX => by rw [hX]; exact ⟨bt10 57 200 (by decide +kernel), by decide +kernel⟩
  have b30 : ∀ X : Int, X = 10 ^ 30 → Bt X 200 ∧ 0 < X := fun X hX => by rw [hX]; exact ⟨bt10 30 200 (by decide +kernel), by decide +kernel⟩
  have b29 : ∀ X : Int, X = 10 ^ 29 → Bt X 200 ∧ 0 < X := fun X hX => by rw [hX]; exact ⟨bt10 29 200 (by decide +kernel), by decide +kernel⟩
  unfold rf__law_draw runDef ev__law_draw
  rcases k with ⟨rfl, -, rfl⟩ | ⟨rfl, -, rfl⟩ | ⟨rfl, -, rfl⟩
  · have := draw0 take_is low_is h hN (R := R)
    obtain ⟨q, C', P', G, e, a⟩ := this
    refine ⟨q, C', P', G, ?_, a⟩
    rw [show begins 6 [D.lst 1, D.int ((0 : Nat) : Int)] = [some (.lst 1), some (.int 0), none, none, none, none] from rfl]
    rw [seq_next (if_s (test_ok ((eq_ok (var_ok rfl) c_ok).trans rfl))), seq_next (if_s (test_ok ((eq_ok (var_ok rfl) c_ok).trans rfl)))]
    exact e
  · obtain ⟨X59, e59⟩ : ∃ X : Int, X = 10 ^ 59 := ⟨_, rfl⟩
    obtain ⟨X58, e58⟩ : ∃ X : Int, X = 10 ^ 58 := ⟨_, rfl⟩
    obtain ⟨X57, e57⟩ : ∃ X : Int, X = 10 ^ 57 := ⟨_, rfl⟩
    obtain ⟨X30, e30⟩ : ∃ X : Int, X = 10 ^ 30 := ⟨_, rfl⟩
    obtain ⟨X29, e29⟩ : ∃ X : Int, X = 10 ^ 29 := ⟨_, rfl⟩
    have := draw1 take_is low_is h hN (R := R) e59 e58 e57 e30 e29 ⟨(b59 _ e59).1.mono (by decide), (b59 _ e59).2⟩ (b58 _ e58) (b57 _ e57) (b30 _ e30) (b29 _ e29)
    obtain ⟨q, C', P', G, e, a⟩ := this
    refine ⟨q, C', P', G, ?_, a⟩
    rw [show begins 6 [D.lst 1, D.int ((1 : Nat) : Int)] = [some (.lst 1), some (.int 1), none, none, none, none] from rfl]
    rw [seq_ret ((if_t (test_ok ((eq_ok (var_ok rfl) c_ok).trans rfl))).trans (ret_of e))]
    rfl
  · obtain ⟨X59, e59⟩ : ∃ X : Int, X = 10 ^ 59 := ⟨_, rfl⟩
    obtain ⟨X60, e60⟩ : ∃ X : Int, X = 10 ^ 60 := ⟨_, rfl⟩
    have := draw2 take_is low_is h hN (R := R) e60 e59 (by rw [e60]; exact bt10 60 200 (by decide +kernel)) (b59 _ e59).1 (by rw [e60, e59]; unfold Bt; decide +kernel) (by rw [e60, e59]; decide +kernel)
    obtain ⟨q, C', P', G, e, a⟩ := this
    refine ⟨q, C', P', G, ?_, a⟩
    rw [show begins 6 [D.lst 1, D.int ((2 : Nat) : Int)] = [some (.lst 1), some (.int 2), none, none, none, none] from rfl]
    rw [seq_next (if_s (test_ok ((eq_ok (var_ok rfl) c_ok).trans rfl))), seq_ret ((if_t (test_ok ((eq_ok (var_ok rfl) c_ok).trans rfl))).trans (ret_of e))]
    rfl
/-- a row is drawn -/
theorem lc_draw {Dr : List D → Sto → Res D} (hD : DrawOk Dr) {s n β : Nat} (k : Kind s n β) {ρ : MP.Env} (h0 : ρ[0]? = some (some (.lst 1))) (h2 : ρ[2]? = some (some (.int (s : Int)))) : ∀ (m : Nat) (xs : List D) (acc : List (Int × Int)) (C P : List D) (N : Nat) (R : Sto), xs.length = m → acc.length + m ≤ 1000 → Pl C P N → N + 5 * m < 2 ^ 50 →
    ∃ (l : List (Int × Int)) (C' P' : List D) (G : Sto), lcLoop (fun _ => True) (bName 5) tTrue (eCall 2 Dr (aCons (eVar 0) (aCons (eVar 2) aNil))) ρ xs (acc.map dq) (C :: P :: R) = .ok ((acc ++ l).map dq) (C' :: P' :: (R ++ G)) ∧ Rw β m l ∧ Pl C' P' (N + 5 * m)
  | 0, xs, acc, C, P, N, R, hx, ha, h, hN => by
    have : xs = [] := List.length_eq_zero_iff.mp hx
    subst this
    exact ⟨[], C, P, [], by rw [lc_nil trivial]; simp, ⟨rfl, by simp, by simp⟩, h⟩
  | m + 1, [], acc, C, P, N, R, hx, ha, h, hN => by cases hx
  | m + 1, x :: xs, acc, C, P, N, R, hx, ha, h, hN => by
    obtain ⟨q, C1, P1, G1, e1, a1, a2, a3, h1⟩ := hD s n β k C P N R h (by omega)
    obtain ⟨l, C2, P2, G2, e2, w, h3⟩ := lc_draw hD k h0 h2 m xs (acc ++ [q]) C1 P1 (N + 5) (R ++ G1) (by simpa using hx) (by simp; omega) h1 (by omega)
    have g0 : (ρ.set 5 (some x))[0]? = some (some (.lst 1)) := by rw [List.getElem?_set_ne (by decide)]; exact h0
    have g2 : (ρ.set 5 (some x))[2]? = some (some (.int (s : Int))) := by rw [List.getElem?_set_ne (by decide)]; exact h2
    refine ⟨q :: l, C2, P2, G1 ++ G2, ?_, ⟨by simp [w.len], fun r hr => ?_, fun r hr => ?_⟩, h3.mono (by omega)⟩
    · rw [lc_cons (ρ1 := ρ.set 5 (some x)) (d := dq q) (S1 := C :: P :: R) (S2 := C1 :: P1 :: (R ++ G1)) trivial rfl rfl ((call2 (var_ok g0) (var_ok g2)).trans e1) (by simp; omega)]
      have : acc.map dq ++ [dq q] = (acc ++ [q]).map dq := by simp
      rw [this, e2]
      simp
    · rcases List.mem_cons.mp hr with rfl | hr
      · exact a1
      · exact w.qu r hr
    · rcases List.mem_cons.mp hr with rfl | hr
      · exact ⟨a2, a3⟩
      · exact w.bt r hr
end LawM
end
section
set_option Elab.async false
set_option linter.all false
set_option maxRecDepth 100000
set_option maxHeartbeats 1000000
/-! P10: two rows. -/
namespace LawM
open PySem PySem.Spec PyProof.Rows L2 MP
theorem and_f {a b : EvB} {ρ : MP.Env} {S S' : Sto} (h : a ρ S = .ok false S') : eAndT a b ρ S = .ok false S' := by
  unfold eAndT
  rw [h]
  rfl
theorem and_2 {a b : EvB} {ρ : MP.Env} {S S' S'' : Sto} {k : Bool} (h : a ρ S = .ok true S') (h2 : b ρ S' = .ok k S'') : eAndT a b ρ S = .ok k S'' := by
  unfold eAndT
  rw [h, Res.bind_ok, if_pos rfl, h2]
theorem or_t {a b : EvB} {ρ : MP.Env} {S S' : Sto} (h : a ρ S = .ok true S') : eOrT a b ρ S = .ok true S' := by
  unfold eOrT
  rw [h]
  rfl
theorem or_2 {a b : EvB} {ρ : MP.Env} {S S' S'' : Sto} {k : Bool} (h : a ρ S = .ok false S') (h2 : b ρ S' = .ok k S'') : eOrT a b ρ S = .ok k S'' := by
  unfold eOrT
  rw [h, Res.bind_ok]
  exact h2
theorem not_b {a : EvB} {ρ : MP.Env} {S S' : Sto} {k : Bool} (h : a ρ S = .ok k S') : eNotT a ρ S = .ok (!k) S' := by
  unfold eNotT
  rw [h]
  rfl
theorem sub_next {g : D → D → D → Sto → Option Sto} {o i e : Ev} {ρ : MP.Env} {S S1 S2 S3 S4 : Sto} {v a k : D} (h1 : e ρ S = .ok v S1) (h2 : o ρ S1 = .ok a S2) (h3 : i ρ S2 = .ok k S3) (h4 : g a k v S3 = some S4) : sSub g o i e ρ S = .next ρ S4 := by
  unfold sSub
  rw [h1, ofRes_ok, h2, ofRes_ok, h3, ofRes_ok, h4]
theorem lc_row {Dr : List D → Sto → Res D} (hD : DrawOk Dr) {s n β : Nat} (k : Kind s n β) {ρ : MP.Env} (h0 : ρ[0]? = some (some (.lst 1))) (h2 : ρ[2]? = some (some (.int (s : Int)))) (h3 : ρ[3]? = some (some (.int (n : Int)))) {C P : List D} {N : Nat} {R : Sto} (h : Pl C P N) (hN : N < 2 ^ 40) :
    ∃ (l : List (Int × Int)) (C' P' : List D) (G : Sto), eLc (iRange rng1 (aCons (eVar 3) aNil)) (bName 5) tTrue (eCall 2 Dr (aCons (eVar 0) (aCons (eVar 2) aNil))) [5] ρ (C :: P :: R) = .ok (.lst ((R ++ G).length + 2)) (C' :: P' :: (R ++ G ++ [l.map dq])) ∧ Rw β n l ∧ Pl C' P' (N + 200) := by
  have hn : n ≤ 40 := by
    rcases k with ⟨-, h, -⟩ | ⟨-, h, -⟩ | ⟨-, h, -⟩ <;> omega
  have w0 : (wipeE ρ [5])[0]? = some (some (.lst 1)) := by
    show (ρ.set 5 none)[0]? = _
    rw [List.getElem?_set_ne (by decide)]; exact h0
  have w2 : (wipeE ρ [5])[2]? = some (some (.int (s : Int))) := by
    show (ρ.set 5 none)[2]? = _
    rw [List.getElem?_set_ne (by decide)]; exact h2
  obtain ⟨l, C', P', G, e, w, h'⟩ := lc_draw hD k w0 w2 n (rngL 0 n) [] C P N R (rngL_length 0 n) (by simp; omega) h (by omega)
  refine ⟨l, C', P', G, ?_, w, h'.mono (by omega)⟩
  unfold eLc iRange
  have e0 : aCons (eVar 3) aNil ρ (C :: P :: R) = .ok [.int (n : Int)] (C :: P :: R) := by
    unfold aCons aNil
    rw [var_ok h3]
    rfl
  rw [e0, Res.bind_ok, rng_ok (by omega), Res.bind_ok]
  have e' : lcLoop (fun _ => True) (bName 5) tTrue (eCall 2 Dr (aCons (eVar 0) (aCons (eVar 2) aNil))) (wipeE ρ [5]) (rngL 0 n) [] (C :: P :: R) = .ok (l.map dq) (C' :: P' :: (R ++ G)) := e
  show (lcLoop (fun _ => True) (bName 5) tTrue (eCall 2 Dr (aCons (eVar 0) (aCons (eVar 2) aNil))) (wipeE ρ [5]) (rngL 0 n) [] (C :: P :: R)).bind _ = _
  rw [e', Res.bind_ok]
  simp
theorem rw_set {β n : Nat} {l : List (Int × Int)} (h : Rw β n l) {i : Nat} {q : Int × Int} (hq : q ∈ l) : Rw β n (l.set i q) where
  len := by rw [List.length_set]; exact h.len
  qu := fun r hr => by
    rcases List.mem_or_eq_of_mem_set hr with hr | rfl
    · exact h.qu r hr
    · exact h.qu r hq
  bt := fun r hr => by
    rcases List.mem_or_eq_of_mem_set hr with hr | rfl
    · exact h.bt r hr
    · exact h.bt r hq
theorem lst3 {e1 e2 e3 : Ev} {x y z : D} {ρ : MP.Env} {C P : List D} {R : Sto} (h1 : ∀ S, e1 ρ S = .ok x S) (h2 : ∀ S, e2 ρ S = .ok y S) (h3 : ∀ S, e3 ρ S = .ok z S) :
    eLst (aCons e1 (aCons e2 (aCons e3 aNil))) ρ (C :: P :: R) = .ok (.lst (R.length + 2)) (C :: P :: (R ++ [[x, y, z]])) := by
  simp [eLst, eL, aCons, aNil, h1, h2, h3, dLst_ok]
theorem rows_gen {F Dr : List D → Sto → Res D} (hF : TakeOk F) (hD : DrawOk Dr) {C P : List D} {N : Nat} {R : Sto} (h : Pl C P N) (hN : N < 2 ^ 30) :
    ∃ (s n β : Nat) (l r : List (Int × Int)) (C' P' : List D) (R' : Sto) (a b c : Nat), Kind s n β ∧ flowRes ((sSeq (sAsg 1 (eCall 2 F (aCons (eVar 0) (aCons (eC (.int 32)) aNil))))
 (sSeq (sAsg 2 (eC (.int 0)))
 (sSeq (sAsg 3 (eCall 2 F (aCons (eVar 0) (aCons (eC (.int 8)) aNil))))
 (sSeq (sIf (eTest (eB dGt (eVar 1) (eC (.int 27))))
 (sAsg 3 (eC (.int 40)))
 (sIf (eTest (eB dGt (eVar 1) (eC (.int 23))))
 (sSeq (sAsg 2 (eC (.int 1)))
 (sAsg 3 (eB dAdd (eVar 3) (eC (.int 2)))))
 (sIf (eTest (eB dEq (eVar 1) (eC (.int 23))))
 (sSeq (sAsg 2 (eC (.int 2)))
 (sAsg 3 (eC (.int 4))))
 sSkip)))
 (sSeq (sAsg 4 (eLc (iRange rng1 (aCons (eVar 3) aNil)) (bName 5) tTrue (eCall 2 Dr (aCons (eVar 0) (aCons (eVar 2) aNil))) [5]))
 (sSeq (sAsg 6 (eLc (iRange rng1 (aCons (eVar 3) aNil)) (bName 5) tTrue (eCall 2 Dr (aCons (eVar 0) (aCons (eVar 2) aNil))) [5]))
 (sSeq (sIf (eAndT (eTest (eB dGt (eVar 3) (eC (.int 1)))) (eTest (eB dEq (eCall 2 F (aCons (eVar 0) (aCons (eC (.int 4)) aNil))) (eC (.int 3)))))
 (sSub gSet (eVar 4) (eCall 2 F (aCons (eVar 0) (aCons (eVar 3) aNil))) (eB dIx (eVar 4) (eCall 2 F (aCons (eVar 0) (aCons (eVar 3) aNil)))))
 sSkip)
 (sRet (eLst (aCons (eVar 4) (aCons (eVar 6) (aCons (eVar 2) aNil)))))))))))) [some (.lst 1), none, none, none, none, none, none] (C :: P :: R)) = .ok (.lst (c + 2)) (C' :: P' :: R') ∧
     R'[c]? = some [.lst (a + 2), .lst (b + 2), .int (s : Int)] ∧ R'[a]? = some (l.map dq) ∧ R'[b]? = some (r.map dq) ∧ Rw β n l ∧ Rw β n r ∧ Pl C' P' (N + 500) := by
  obtain ⟨p, C1, P1, e1, l1, h1⟩ := tk_ok hF (R := R) (ρ := [some (.lst 1), none, none, none, none, none, none]) (e := eC (.int 32)) (m := 32) h rfl (fun S => rfl) (by decide) (by decide) (by omega)
  rw [seq_next (ret_asg e1), seq_next (ret_asg c_ok)]
  obtain ⟨g, C2, P2, e2, l2, h2⟩ := tk_ok hF (R := R) (ρ := [some (.lst 1), some (.int (p : Int)), some (.int 0), none, none, none, none]) (e := eC (.int 8)) (m := 8) h1 rfl (fun S => rfl) (by decide) (by decide) (by omega)
  rw [show List.set (List.set [some (D.lst 1), none, none, none, none, none, none] 1 (some (D.int (p : Int)))) 2 (some (D.int 0)) = [some (.lst 1), some (.int (p : Int)), some (.int 0), none, none, none, none] from rfl]
  rw [seq_next (ret_asg e2)]
  rw [show List.set [some (D.lst 1), some (D.int (p : Int)), some (.int 0), none, none, none, none] 3 (some (D.int (g : Int))) = [some (.lst 1), some (.int (p : Int)), some (.int 0), some (.int (g : Int)), none, none, none] from rfl]
  have h4 : ∃ s n β : Nat, Kind s n β ∧ (sIf (eTest (eB dGt (eVar 1) (eC (.int 27)))) (sAsg 3 (eC (.int 40)))
     (sIf (eTest (eB dGt (eVar 1) (eC (.int 23)))) (sSeq (sAsg 2 (eC (.int 1))) (sAsg 3 (eB dAdd (eVar 3) (eC (.int 2)))))
     (sIf (eTest (eB dEq (eVar 1) (eC (.int 23)))) (sSeq (sAsg 2 (eC (.int 2))) (sAsg 3 (eC (.int 4)))) sSkip))) [some (.lst 1), some (.int (p : Int)), some (.int 0), some (.int (g : Int)), none, none, none] (C2 :: P2 :: R) =
     .next [some (.lst 1), some (.int (p : Int)), some (.int (s : Int)), some (.int (n : Int)), none, none, none] (C2 :: P2 :: R) := by
    by_cases c1 : (27 : Int) < p
    · exact ⟨0, 40, 8, .inl ⟨rfl, by omega, rfl⟩, (if_t (test_ok ((gt_ok (var_ok rfl) c_ok).trans (by rw [decide_eq_true c1])))).trans rfl⟩
    · by_cases c2 : (23 : Int) < p
      · refine ⟨1, g + 2, 220, .inr (.inl ⟨rfl, by omega, rfl⟩), ?_⟩
        rw [if_f (test_ok ((gt_ok (var_ok rfl) c_ok).trans (by rw [decide_eq_false c1]))), if_t (test_ok ((gt_ok (var_ok rfl) c_ok).trans (by rw [decide_eq_true c2]))), seq_next (ret_asg c_ok), ret_asg (add_ok (var_ok rfl) c_ok)]
        rfl
      · by_cases c3 : (p : Int) = 23
        · refine ⟨2, 4, 1000, .inr (.inr ⟨rfl, rfl, rfl⟩), ?_⟩
          rw [if_f (test_ok ((gt_ok (var_ok rfl) c_ok).trans (by rw [decide_eq_false c1]))), if_f (test_ok ((gt_ok (var_ok rfl) c_ok).trans (by rw [decide_eq_false c2]))), if_t (test_ok ((eq_ok (var_ok rfl) c_ok).trans (by rw [decide_eq_true c3]))), seq_next (ret_asg c_ok), ret_asg c_ok]
          rfl
        · refine ⟨0, g, 8, .inl ⟨rfl, by omega, rfl⟩, ?_⟩
          rw [if_f (test_ok ((gt_ok (var_ok rfl) c_ok).trans (by rw [decide_eq_false c1]))), if_f (test_ok ((gt_ok (var_ok rfl) c_ok).trans (by rw [decide_eq_false c2]))), if_s (test_ok ((eq_ok (var_ok rfl) c_ok).trans (by rw [decide_eq_false c3])))]
          rfl
  obtain ⟨s, n, β, k, e4⟩ := h4
  have hn : n ≤ 40 := by
    rcases k with ⟨-, h, -⟩ | ⟨-, h, -⟩ | ⟨-, h, -⟩ <;> omega
  rw [seq_next e4]
  obtain ⟨l, C3, P3, G3, e5, wl, h5⟩ := lc_row hD k (ρ := [some (.lst 1), some (.int (p : Int)), some (.int (s : Int)), some (.int (n : Int)), none, none, none]) rfl rfl rfl (R := R) h2 (by omega)
  rw [seq_next (ret_asg e5)]
  rw [show List.set [some (D.lst 1), some (.int (p : Int)), some (.int (s : Int)), some (.int (n : Int)), none, none, none] 4 (some (D.lst ((R ++ G3).length + 2))) = [some (.lst 1), some (.int (p : Int)), some (.int (s : Int)), some (.int (n : Int)), some (.lst ((R ++ G3).length + 2)), none, none] from rfl]
  generalize hX : R ++ G3 = X
  obtain ⟨r, C4, P4, G4, e6, wr, h6⟩ := lc_row hD k (ρ := [some (.lst 1), some (.int (p : Int)), some (.int (s : Int)), some (.int (n : Int)), some (.lst (X.length + 2)), none, none]) rfl rfl rfl (R := X ++ [l.map dq]) h5 (by omega)
  rw [seq_next (ret_asg e6)]
  rw [show List.set [some (D.lst 1), some (.int (p : Int)), some (.int (s : Int)), some (.int (n : Int)), some (.lst (X.length + 2)), none, none] 6 (some (D.lst ((X ++ [l.map dq] ++ G4).length + 2))) = [some (.lst 1), some (.int (p : Int)), some (.int (s : Int)), some (.int (n : Int)), some (.lst (X.length + 2)), none, some (.lst ((X ++ [l.map dq] ++ G4).length + 2))] from rfl]
  generalize hb : (X ++ [l.map dq] ++ G4).length = b
  have hXb : X.length < b := by rw [← hb]; simp
  have z1 : (X ++ [l.map dq] ++ G4 ++ [r.map dq])[X.length]? = some (l.map dq) := by simp
  have z2 : (X ++ [l.map dq] ++ G4 ++ [r.map dq])[b]? = some (r.map dq) := by rw [← hb, List.getElem?_append_right (Nat.le_refl _)]; simp
  generalize X ++ [l.map dq] ++ G4 ++ [r.map dq] = Y at z1 z2
  generalize X.length = a at z1 hXb
  generalize hρ : [some (D.lst 1), some (.int (p : Int)), some (.int (s : Int)), some (.int (n : Int)), some (.lst (a + 2)), none, some (.lst (b + 2))] = ρ
  have r0 : ρ[0]? = some (some (.lst 1)) := by rw [← hρ]; rfl
  have r2 : ρ[2]? = some (some (.int (s : Int))) := by rw [← hρ]; rfl
  have r3 : ρ[3]? = some (some (.int (n : Int))) := by rw [← hρ]; rfl
  have r4 : ρ[4]? = some (some (.lst (a + 2))) := by rw [← hρ]; rfl
  have r6 : ρ[6]? = some (some (.lst (b + 2))) := by rw [← hρ]; rfl
  clear hρ e4 e5 e6 e1 e2
  have last : ∀ (C' P' : List D) (Y' : Sto) (l' : List (Int × Int)), Y'[a]? = some (l'.map dq) → Y'[b]? = some (r.map dq) → Rw β n l' → Pl C' P' (N + 500) → ∃ (s n β : Nat) (l r : List (Int × Int)) (C'' P'' : List D) (R' : Sto) (a b c : Nat), Kind s n β ∧
      flowRes ((sRet (eLst (aCons (eVar 4) (aCons (eVar 6) (aCons (eVar 2) aNil))))) ρ (C' :: P' :: Y')) = .ok (.lst (c + 2)) (C'' :: P'' :: R') ∧ R'[c]? = some [.lst (a + 2), .lst (b + 2), .int (s : Int)] ∧ R'[a]? = some (l.map dq) ∧ R'[b]? = some (r.map dq) ∧ Rw β n l ∧ Rw β n r ∧ Pl C'' P'' (N + 500) := fun C' P' Y' l' y1 y2 w p => by
    refine ⟨s, n, β, l', r, C', P', Y' ++ [[.lst (a + 2), .lst (b + 2), .int (s : Int)]], a, b, Y'.length, k, ?_, ?_, ?_, ?_, w, wr, p⟩
    · rw [ret_ret (lst3 (fun S => var_ok r4) (fun S => var_ok r6) (fun S => var_ok r2))]
      rfl
    · simp
    · rw [List.getElem?_append_left (List.getElem?_eq_some_iff.mp y1).1, y1]
    · rw [List.getElem?_append_left (List.getElem?_eq_some_iff.mp y2).1, y2]
  have skip : ∀ (C' P' : List D) (t : EvB), t ρ (C4 :: P4 :: Y) = .ok false (C' :: P' :: Y) → Pl C' P' (N + 500) → ∀ (A : Es), _ := fun C' P' t ht p A => by
    have := last C' P' Y l z1 z2 wl p
    have e : (sSeq (sIf t A sSkip) (sRet (eLst (aCons (eVar 4) (aCons (eVar 6) (aCons (eVar 2) aNil)))))) ρ (C4 :: P4 :: Y) = (sRet (eLst (aCons (eVar 4) (aCons (eVar 6) (aCons (eVar 2) aNil))))) ρ (C' :: P' :: Y) := seq_next (if_s ht)
    rw [← e] at this
    exact this
  by_cases c1 : (1 : Int) < n
  · have t1 : ∀ S, eTest (eB dGt (eVar 3) (eC (.int 1))) ρ S = .ok true S := fun S => test_ok ((gt_ok (var_ok r3) c_ok).trans (by rw [decide_eq_true c1]))
    obtain ⟨t, C5, P5, e5, l5, h7⟩ := tk_ok hF (R := Y) (ρ := ρ) (e := eC (.int 4)) (m := 4) h6 r0 (fun S => rfl) (by decide) (by decide) (by omega)
    by_cases c2 : (t : Int) = 3
    · obtain ⟨j, C6, P6, e6, l6, h8⟩ := tk_ok hF (R := Y) (ρ := ρ) (e := eVar 3) (m := n) h7 r0 (fun S => var_ok r3) (by omega) (by omega) (by omega)
      obtain ⟨i, C7, P7, e7, l7, h9⟩ := tk_ok hF (R := Y) (ρ := ρ) (e := eVar 3) (m := n) h8 r0 (fun S => var_ok r3) (by omega) (by omega) (by omega)
      obtain ⟨q, hq⟩ := at_lt (l := l) (i := j) (by rw [wl.len]; exact l6)
      have y1 : (C6 :: P6 :: Y)[a + 2]? = some (l.map dq) := z1
      have y2 : (C7 :: P7 :: Y)[a + 2]? = some (l.map dq) := z1
      have es : (C7 :: P7 :: Y).set (a + 2) ((l.map dq).set i (dq q)) = C7 :: P7 :: Y.set a ((l.set i q).map dq) := by
        rw [List.map_set]
        rfl
      have step : (sIf (eAndT (eTest (eB dGt (eVar 3) (eC (.int 1)))) (eTest (eB dEq (eCall 2 F (aCons (eVar 0) (aCons (eC (.int 4)) aNil))) (eC (.int 3)))))
         (sSub gSet (eVar 4) (eCall 2 F (aCons (eVar 0) (aCons (eVar 3) aNil))) (eB dIx (eVar 4) (eCall 2 F (aCons (eVar 0) (aCons (eVar 3) aNil))))) sSkip) ρ (C4 :: P4 :: Y) = .next ρ (C7 :: P7 :: Y.set a ((l.set i q).map dq)) := by
        rw [if_t (and_2 (t1 _) (test_ok ((eq_ok e5 c_ok).trans (by rw [decide_eq_true c2]))))]
        rw [sub_next (b_ok (var_ok r4) e6 (ix_lst y1 (at_dq hq))) (var_ok r4) e7 ((set_lst y2 (by simp; rw [wl.len]; exact l7)).trans (by rw [es]))]
      rw [seq_next step]
      refine last C7 P7 _ (l.set i q) ?_ ?_ (rw_set wl (List.mem_of_getElem? hq)) (h9.mono (by omega))
      · rw [List.getElem?_set_self (List.getElem?_eq_some_iff.mp z1).1]
      · rw [List.getElem?_set_ne (by omega)]
        exact z2
    · exact skip C5 P5 _ (and_2 (t1 _) (test_ok ((eq_ok e5 c_ok).trans (by rw [decide_eq_false c2])))) (h7.mono (by omega)) _
  · exact skip C4 P4 _ (and_f (test_ok ((gt_ok (var_ok r3) c_ok).trans (by rw [decide_eq_false c1])))) (h6.mono (by omega)) _
theorem rows_ok {C P : List D} {N : Nat} {R : Sto} (h : Pl C P N) (hN : N < 2 ^ 30) :
    ∃ (s n β : Nat) (l r : List (Int × Int)) (C' P' : List D) (R' : Sto) (a b c : Nat), Kind s n β ∧ rf__law_rows [.lst 1] (C :: P :: R) = .ok (.lst (c + 2)) (C' :: P' :: R') ∧
     R'[c]? = some [.lst (a + 2), .lst (b + 2), .int (s : Int)] ∧ R'[a]? = some (l.map dq) ∧ R'[b]? = some (r.map dq) ∧ Rw β n l ∧ Rw β n r ∧ Pl C' P' (N + 500) := rows_gen take_is draw_is h hN
end LawM
end
section
set_option Elab.async false
set_option linter.all false
set_option maxRecDepth 100000
set_option maxHeartbeats 1000000
/-! P11: refusals. -/
namespace LawM
open PySem PySem.Spec PyProof.Rows L2 MP
def Kp (R R' : Sto) : Prop := ∀ (i : Nat) (xs : List D), R[i]? = some xs → R'[i]? = some xs
theorem Kp.refl (R : Sto) : Kp R R := fun _ _ h => h
theorem Kp.app (R G : Sto) : Kp R (R ++ G) := fun i xs h => by
  rw [List.getElem?_append_left (List.getElem?_eq_some_iff.mp h).1, h]
theorem Kp.trans {A B C : Sto} (h : Kp A B) (k : Kp B C) : Kp A C := fun i xs e => k i xs (h i xs e)
theorem tk_at {F : List D → Sto → Res D} (hF : TakeOk F) {C P : List D} {n : Nat} {R : Sto} {ρ : MP.Env} {a e : Ev} {m : Nat} (h : Pl C P n) (h0 : a ρ (C :: P :: R) = .ok (.lst 1) (C :: P :: R)) (he : e ρ (C :: P :: R) = .ok (.int (m : Int)) (C :: P :: R)) (hm : 0 < m) (hm2 : m < 2 ^ 60) (hn : n < 2 ^ 60) :
    ∃ (r : Nat) (C' P' : List D), eCall 2 F (aCons a (aCons e aNil)) ρ (C :: P :: R) = .ok (.int (r : Int)) (C' :: P' :: R) ∧ r < m ∧ Pl C' P' (n + 1) := by
  obtain ⟨r, C', P', e1, e2, e3⟩ := hF C P n m R h hm hm2 hn
  exact ⟨r, C', P', by rw [call2 h0 he, e1], e2, e3⟩
def odd (k : Nat) : List D := [.tup [.int 2, .int 4], .tup [.bl true, .int 1], .tup [.int 1, .bl true], .tup [.int 0, .int 2], .tup [.int 1, .int (-2)], .tup [.int 1, .int 0], .lst k, .tup [.int 1], .tup [.int 1, .int 2, .int 3], .int 5, .non, .str "1/2", .tup [], .tup [.str "1", .int 2]]
theorem odd_bad (k : Nat) : ∀ r, r < 14 → ∃ d, (odd k)[r]? = some d ∧ Bad d
  | 0, _ => ⟨_, rfl, .two (by decide)⟩
  | 1, _ => ⟨_, rfl, .b1⟩
  | 2, _ => ⟨_, rfl, .b2⟩
  | 3, _ => ⟨_, rfl, .two (by decide)⟩
  | 4, _ => ⟨_, rfl, .two (by decide)⟩
  | 5, _ => ⟨_, rfl, .two (by decide)⟩
  | 6, _ => ⟨_, rfl, .lst⟩
  | 7, _ => ⟨_, rfl, .l1⟩
  | 8, _ => ⟨_, rfl, .l3⟩
  | 9, _ => ⟨_, rfl, .int⟩
  | 10, _ => ⟨_, rfl, .non⟩
  | 11, _ => ⟨_, rfl, .str⟩
  | 12, _ => ⟨_, rfl, .l0⟩
  | 13, _ => ⟨_, rfl, .s1⟩
theorem bad_gen {F : List D → Sto → Res D} (hF : TakeOk F) {C P : List D} {N : Nat} {R : Sto} (h : Pl C P N) (hN : N < 2 ^ 50) : ∃ (d : D) (C' P' : List D) (R' : Sto), flowRes ((sSeq (sAsg 1 (eLst (aCons (eTup (aCons (eC (.int 2)) (aCons (eC (.int 4)) aNil))) (aCons (eTup (aCons (eC (.bl true)) (aCons (eC (.int 1)) aNil))) (aCons (eTup (aCons (eC (.int 1)) (aCons (eC (.bl true)) aNil))) (aCons (eTup (aCons (eC (.int 0)) (aCons (eC (.int 2)) aNil))) (aCons (eTup (aCons (eC (.int 1)) (aCons (eU dNeg (eC (.int 2))) aNil))) (aCons (eTup (aCons (eC (.int 1)) (aCons (eC (.int 0)) aNil))) (aCons (eLst (aCons (eC (.int 1)) (aCons (eC (.int 2)) aNil))) (aCons (eTup (aCons (eC (.int 1)) aNil)) (aCons (eTup (aCons (eC (.int 1)) (aCons (eC (.int 2)) (aCons (eC (.int 3)) aNil)))) (aCons (eC (.int 5)) (aCons (eC .non) (aCons (eC (.str "1/2")) (aCons (eTup aNil) (aCons (eTup (aCons (eC (.str "1")) (aCons (eC (.int 2)) aNil))) aNil))))))))))))))))
 (sRet (eB dIx (eVar 1) (eCall 2 F (aCons (eVar 0) (aCons (eC (.int 14)) aNil)))))) [some (.lst 1), none] (C :: P :: R)) = .ok d (C' :: P' :: R') ∧ Bad d ∧ Kp R R' ∧ Pl C' P' (N + 1) := by
  have q1 : eLst (aCons (eTup (aCons (eC (.int 2)) (aCons (eC (.int 4)) aNil))) (aCons (eTup (aCons (eC (.bl true)) (aCons (eC (.int 1)) aNil))) (aCons (eTup (aCons (eC (.int 1)) (aCons (eC (.bl true)) aNil))) (aCons (eTup (aCons (eC (.int 0)) (aCons (eC (.int 2)) aNil))) (aCons (eTup (aCons (eC (.int 1)) (aCons (eU dNeg (eC (.int 2))) aNil))) (aCons (eTup (aCons (eC (.int 1)) (aCons (eC (.int 0)) aNil))) (aCons (eLst (aCons (eC (.int 1)) (aCons (eC (.int 2)) aNil))) (aCons (eTup (aCons (eC (.int 1)) aNil)) (aCons (eTup (aCons (eC (.int 1)) (aCons (eC (.int 2)) (aCons (eC (.int 3)) aNil)))) (aCons (eC (.int 5)) (aCons (eC .non) (aCons (eC (.str "1/2")) (aCons (eTup aNil) (aCons (eTup (aCons (eC (.str "1")) (aCons (eC (.int 2)) aNil))) aNil)))))))))))))) [some (.lst 1), none] (C :: P :: R) =
      .ok (.lst (R.length + 1 + 2)) (C :: P :: (R ++ [[.int 1, .int 2], odd (R.length + 2)])) := by
    simp [eLst, eL, eTup, eU, eC, dNeg, aCons, aNil, dTup_ok, dLst_ok, odd]
  rw [seq_next (ret_asg q1)]
  generalize hY : R ++ [[D.int 1, .int 2], odd (R.length + 2)] = Y
  have at1 : ∀ C P, (C :: P :: Y)[R.length + 1 + 2]? = some (odd (R.length + 2)) := fun C P => by rw [← hY]; simp
  obtain ⟨r, C1, P1, e1, l1, h1⟩ := tk_ok hF (R := Y) (ρ := List.set [some (.lst 1), none] 1 (some (.lst (R.length + 1 + 2)))) (e := eC (.int 14)) (m := 14) h rfl (fun S => rfl) (by decide) (by decide) (by omega)
  obtain ⟨d, hd, bd⟩ := odd_bad (R.length + 2) r l1
  refine ⟨d, C1, P1, Y, ?_, bd, by rw [← hY]; exact Kp.app _ _, h1⟩
  rw [ret_ret (b_ok (var_ok rfl) e1 (ix_lst (at1 _ _) hd))]
  rfl
def BadOk (B : List D → Sto → Res D) : Prop := ∀ (C P : List D) (N : Nat) (R : Sto), Pl C P N → N < 2 ^ 50 → ∃ (d : D) (C' P' : List D) (R' : Sto), B [.lst 1] (C :: P :: R) = .ok d (C' :: P' :: R') ∧ Bad d ∧ Kp R R' ∧ Pl C' P' (N + 1)
theorem bad_is : BadOk rf__law_bad := fun C P N R h hN => bad_gen take_is h hN
/-! asking -/
def AskOk (A : List D → Sto → Res D) : Prop :=
  (∀ (L R d : D) (b : Bool) (S : Sto), Ans (rf_total [L] S) d S → Ans (A [.int 0, L, R, .bl b] S) (told d) S) ∧
  (∀ (L R d : D) (b : Bool) (S : Sto), Ans (rf_weighed [L, R] S) d S → Ans (A [.int 1, L, R, .bl b] S) (told d) S) ∧
  (∀ (L R d : D) (b : Bool) (S : Sto), Ans (rf_least_of [L] S) d S → Ans (A [.int 2, L, R, .bl b] S) (told d) S) ∧
  (∀ (L R d : D) (b : Bool) (S : Sto), Ans (rf_greatest_of [L] S) d S → Ans (A [.int 3, L, R, .bl b] S) (told d) S) ∧
  (∀ (i : Nat) (L R : D) (b : Bool) (S : Sto), i < 4 → NoRow L → Ans (A [.int (i : Int), L, R, .bl b] S) (refused "row") S) ∧
  (∀ (i : Nat) (R : D) (b : Bool) (S : Sto), i = 2 ∨ i = 3 → Ans (A [.int (i : Int), .tup [], R, .bl b] S) (refused "row") S) ∧
  (∀ (L R : D) (b : Bool) (S : Sto), IsRow L → NoRow R → Ans (A [.int 1, L, R, .bl b] S) (refused "others") S) ∧
  (∀ (xs ys : List D) (b : Bool) (S : Sto), IsRow (.tup xs) → IsRow (.tup ys) → ys.length ≠ xs.length → Ans (A [.int 1, .tup xs, .tup ys, .bl b] S) (refused "others") S)
theorem ask_is : AskOk rf__law_ask := by
  refine ⟨fun L R d b S h => ask0 h, fun L R d b S h => ask1 h, fun L R d b S h => ask2 h, fun L R d b S h => ask3 h, fun i L R b S hi h => ?_, fun i R b S hi => ?_, fun L R b S h h' => ask_r1 (weighed_ref2 h h' S), fun xs ys b S h h' hl => ask_r1 (weighed_ref3 h h' hl S)⟩
  · match i, hi with
    | 0, _ => exact ask_r0 (total_ref h S)
    | 1, _ => exact ask_r1 (weighed_ref1 h S)
    | 2, _ => exact ask_r2 (least_ref (need_ref h) S)
    | 3, _ => exact ask_r3 (greatest_ref (need_ref h) S)
  · rcases hi with rfl | rfl
    · exact ask_r2 (least_ref need_ref0 S)
    · exact ask_r3 (greatest_ref need_ref0 S)
theorem toPy_refused {w : Str} (h : okS w = true) {S : Sto} : toPy S deep (refused w) = some (.tuple [.str "refused", .str w]) := by
  have h1 : ∀ S, toPy S 39 (.str "refused") = some (.str "refused") := fun S => by
    show (if PyData.strOk "refused" = true then some (PyData.str "refused") else none) = _
    rw [if_pos (by decide +kernel)]
  have h2 : ∀ S, toPy S 39 (.str w) = some (.str w) := fun S => by
    show (if PyData.strOk w = true then some (PyData.str w) else none) = _
    rw [if_pos (show PyData.strOk w = true from h)]
  show (toPyL (toPy S 39) [.str "refused", .str w]).map PyData.tuple = _
  simp [toPyL, h1, h2]
theorem ne_refused {w : Str} (h : okS w = true) {S : Sto} : dNe (refused w) (refused w) S = some (.bl false, S) := by
  rw [dNe_of (toPy_refused h) (toPy_refused h)]
  simp [PyData.eqv, PyData.eqvAll]
theorem ok_row : okS "row" = true := by decide +kernel
theorem ok_others : okS "others" = true := by decide +kernel
theorem tup2 {ρ : MP.Env} {S : Sto} {x y : D} : eTup (aCons (eC x) (aCons (eC y) aNil)) ρ S = .ok (.tup [x, y]) S := by
  simp [eTup, eL, aCons, aNil, eC, dTup_ok]
/-- a refusal is asked for, and comes -/
theorem ask_if {e : Ev} {A : Es} {ρ : MP.Env} {S S1 : Sto} {w : Str} (hw : okS w = true) (h : e ρ S = .ok (refused w) S1) : sIf (eTest (eB dNe e (eTup (aCons (eC (.str "refused")) (aCons (eC (.str w)) aNil))))) A sSkip ρ S = .next ρ S1 :=
  if_s (test_ok (b_ok h tup2 (ne_refused hw)))
theorem tup_ev {i l : Nat} {ρ : MP.Env} {S : Sto} {xs : List D} (h : ρ[i]? = some (some (.lst l))) (hl : S[l]? = some xs) : eL dTupOf (aCons (eVar i) aNil) ρ S = .ok (.tup xs) S := by
  unfold eL aCons aNil
  rw [var_ok h, Res.bind_ok, Res.bind_ok, Res.bind_ok, tup_lst hl, lift_some]
theorem list_ev {i l : Nat} {ρ : MP.Env} {S : Sto} {xs : List D} (h : ρ[i]? = some (some (.lst l))) (hl : S[l]? = some xs) : eL dListOf (aCons (eVar i) aNil) ρ S = .ok (.lst S.length) (S ++ [xs]) := by
  unfold eL aCons aNil
  rw [var_ok h, Res.bind_ok, Res.bind_ok, Res.bind_ok, list_lst hl, lift_some]
theorem len_ev {i l : Nat} {ρ : MP.Env} {S : Sto} {xs : List D} (h : ρ[i]? = some (some (.lst l))) (hl : S[l]? = some xs) : eL dLen (aCons (eVar i) aNil) ρ S = .ok (.int xs.length) S := by
  unfold eL aCons aNil
  rw [var_ok h, Res.bind_ok, Res.bind_ok, Res.bind_ok, len_lst hl, lift_some]
theorem cut_lo {xs : List D} {k : Nat} : MP.cutD xs none (some (k : Int)) = xs.take k := by
  unfold MP.cutD
  rw [HT.sIx_nat, HT.sIx_none, List.drop_zero, Nat.sub_zero]
  rcases Nat.le_total k xs.length with h | h
  · rw [Nat.min_eq_left h]
  · rw [Nat.min_eq_right h, List.take_length, List.take_of_length_le h]
theorem cut_hi {xs : List D} {k : Nat} (h : k ≤ xs.length) : MP.cutD xs (some (k : Int)) none = xs.drop k := by
  unfold MP.cutD
  rw [HT.sIx_nat, HT.sIx_none, Nat.min_eq_left h, List.take_of_length_le (by simp)]
theorem sl_lo {i l k : Nat} {ρ : MP.Env} {S : Sto} {xs : List D} {e : Ev} (h : ρ[i]? = some (some (.lst l))) (hl : S[l]? = some xs) (he : e ρ S = .ok (.int (k : Int)) S) : eSl (eVar i) none (some e) ρ S = .ok (.lst S.length) (S ++ [xs.take k]) := by
  unfold eSl
  simp only [var_ok h, Res.bind_ok, he, dSl, hl, Option.map_some, lift_some, cut_lo]
theorem sl_hi {i l k : Nat} {ρ : MP.Env} {S : Sto} {xs : List D} {e : Ev} (h : ρ[i]? = some (some (.lst l))) (hl : S[l]? = some xs) (he : e ρ S = .ok (.int (k : Int)) S) (hk : k ≤ xs.length) : eSl (eVar i) (some e) none ρ S = .ok (.lst S.length) (S ++ [xs.drop k]) := by
  unfold eSl
  simp only [var_ok h, Res.bind_ok, he, dSl, hl, Option.map_some, lift_some, cut_hi hk]
theorem add_lst {S : Sto} {l m : Nat} {xs ys : List D} (h1 : S[l]? = some xs) (h2 : S[m]? = some ys) (h : xs.length + ys.length ≤ 1000000) : dAdd (.lst l) (.lst m) S = some (.lst S.length, S ++ [xs ++ ys]) := by
  unfold dAdd
  simp only [h1, h2]
  rw [if_pos (show xs.length + ys.length ≤ most from h)]
theorem add_tup {S : Sto} {xs ys : List D} (h : xs.length + ys.length ≤ 1000000) : dAdd (.tup xs) (.tup ys) S = some (.tup (xs ++ ys), S) := by
  unfold dAdd
  simp only []
  rw [if_pos (show xs.length + ys.length ≤ most from h)]
theorem lst1 {e1 : Ev} {x : D} {ρ : MP.Env} {S : Sto} (h1 : ∀ S, e1 ρ S = .ok x S) : eLst (aCons e1 aNil) ρ S = .ok (.lst S.length) (S ++ [[x]]) := by
  simp [eLst, eL, aCons, aNil, h1, dLst_ok]
/-- the spoilt row -/
theorem spoilt_ok {ρ : MP.Env} {S : Sto} {l k : Nat} {xs : List D} {d : D} (h1 : ρ[1]? = some (some (.lst l))) (h4 : ρ[4]? = some (some d)) (h5 : ρ[5]? = some (some (.int (k : Int)))) (hl : S[l]? = some xs) (hk : k ≤ xs.length) (hn : xs.length ≤ 1000) :
    ∃ G, eL dTupOf (aCons (eB dAdd (eB dAdd (eSl (eVar 1) none (some (eVar 5))) (eLst (aCons (eVar 4) aNil))) (eSl (eVar 1) (some (eVar 5)) none)) aNil) ρ S = .ok (.tup (xs.take k ++ [d] ++ xs.drop k)) (S ++ G) := by
  have ap : ∀ (A B : Sto) (i : Nat) (ys : List D), A[i]? = some ys → (A ++ B)[i]? = some ys := fun A B i ys h => Kp.app A B i ys h
  have nw : ∀ (A : Sto) (ys : List D), (A ++ [ys])[A.length]? = some ys := fun A ys => by simp
  have e1 := sl_lo h1 hl (var_ok (S := S) h5)
  have e2 := lst1 (ρ := ρ) (S := S ++ [xs.take k]) (fun S => var_ok (S := S) h4)
  have e3 := b_ok e1 e2 (add_lst (ap _ _ _ _ (nw S (xs.take k))) (nw (S ++ [xs.take k]) [d]) (by simp; omega))
  have e4 := sl_hi h1 (ap _ _ _ _ (ap _ _ _ _ (ap S [xs.take k] _ _ hl))) (var_ok (S := S ++ [xs.take k] ++ [[d]] ++ [xs.take k ++ [d]]) h5) hk
  have e5 := b_ok e3 e4 (add_lst (ap _ _ _ _ (nw (S ++ [xs.take k] ++ [[d]]) (xs.take k ++ [d]))) (nw _ (xs.drop k)) (by simp; omega))
  refine ⟨[xs.take k] ++ [[d]] ++ [xs.take k ++ [d]] ++ [xs.drop k] ++ [xs.take k ++ [d] ++ xs.drop k], ?_⟩
  unfold eL
  rw [show aCons (eB dAdd (eB dAdd (eSl (eVar 1) none (some (eVar 5))) (eLst (aCons (eVar 4) aNil))) (eSl (eVar 1) (some (eVar 5)) none)) aNil ρ S = (eB dAdd (eB dAdd (eSl (eVar 1) none (some (eVar 5))) (eLst (aCons (eVar 4) aNil))) (eSl (eVar 1) (some (eVar 5)) none) ρ S).bind fun d S1 => .ok [d] S1 from rfl]
  rw [e5, Res.bind_ok, Res.bind_ok, tup_lst (nw _ _), lift_some]
  simp
end LawM
end
section
set_option Elab.async false
set_option linter.all false
set_option maxRecDepth 100000
set_option maxHeartbeats 1000000
/-! P12: all refusals. -/
namespace LawM
open PySem PySem.Spec PyProof.Rows L2 MP
def Sg (C P : List D) (R S : Sto) : Prop := ∃ Y, S = C :: P :: Y ∧ Kp R Y
theorem Sg.app {C P : List D} {R S : Sto} (h : Sg C P R S) (G : Sto) : Sg C P R (S ++ G) := by
  obtain ⟨Y, rfl, k⟩ := h
  exact ⟨Y ++ G, rfl, k.trans (Kp.app Y G)⟩
theorem Sg.at {C P : List D} {R S : Sto} (h : Sg C P R S) {a : Nat} {xs : List D} (z : R[a]? = some xs) : S[a + 2]? = some xs := by
  obtain ⟨Y, rfl, k⟩ := h
  exact k a xs z
theorem not_v {i : Nat} {ρ : MP.Env} {S : Sto} {b : Bool} (h : ρ[i]? = some (some (.bl b))) : eNot (eVar i) ρ S = .ok (.bl (!b)) S := by
  unfold eNot
  rw [var_ok h]
  rfl
theorem refused_gen {F B A : List D → Sto → Res D} (hF : TakeOk F) (hB : BadOk B) (hA : AskOk A) {β n : Nat} {l r : List (Int × Int)} (wl : Rw β n l) (wr : Rw β n r) (hn : n ≤ 40) {b : Bool} {C P : List D} {N : Nat} {R : Sto} {a c : Nat} (h : Pl C P N) (hN : N < 2 ^ 40) (za : R[a]? = some (l.map dq)) (zc : R[c]? = some (r.map dq)) :
  ∃ (C' P' : List D) (R' : Sto), flowRes ((sSeq (sAsg 4 (eCall 1 B (aCons (eVar 0) aNil)))
 (sSeq (sAsg 5 (eCall 2 F (aCons (eVar 0) (aCons (eB dAdd (eL dLen (aCons (eVar 1) aNil)) (eC (.int 1))) aNil))))
 (sSeq (sAsg 6 (eL dTupOf (aCons (eB dAdd (eB dAdd (eSl (eVar 1) none (some (eVar 5))) (eLst (aCons (eVar 4) aNil))) (eSl (eVar 1) (some (eVar 5)) none)) aNil)))
 (sSeq (sFor (iRange rng1 (aCons (eC (.int 4)) aNil)) (bName 7)
 (sSeq (sIf (eTest (eB dNe (eCall 4 A (aCons (eVar 7) (aCons (eVar 6) (aCons (eL dTupOf (aCons (eVar 2) aNil)) (aCons (eVar 3) aNil))))) (eTup (aCons (eC (.str "refused")) (aCons (eC (.str "row")) aNil)))))
 (sRet (eC (.bl false)))
 sSkip)
 (sIf (eTest (eB dNe (eCall 4 A (aCons (eVar 7) (aCons (eL dListOf (aCons (eVar 1) aNil)) (aCons (eL dListOf (aCons (eVar 2) aNil)) (aCons (eVar 3) aNil))))) (eTup (aCons (eC (.str "refused")) (aCons (eC (.str "row")) aNil)))))
 (sRet (eC (.bl false)))
 sSkip)))
 (sSeq (sAsg 8 (eB dAdd (eL dTupOf (aCons (eVar 2) aNil)) (eTup (aCons (eTup (aCons (eC (.int 1)) (aCons (eC (.int 2)) aNil))) aNil))))
 (sSeq (sIf (eTest (eB dNe (eCall 4 A (aCons (eC (.int 1)) (aCons (eL dTupOf (aCons (eVar 1) aNil)) (aCons (eVar 8) (aCons (eVar 3) aNil))))) (eTup (aCons (eC (.str "refused")) (aCons (eC (.str "others")) aNil)))))
 (sRet (eC (.bl false)))
 sSkip)
 (sSeq (sIf (eTest (eB dNe (eCall 4 A (aCons (eC (.int 1)) (aCons (eVar 8) (aCons (eL dTupOf (aCons (eVar 1) aNil)) (aCons (eNot (eVar 3)) aNil))))) (eTup (aCons (eC (.str "refused")) (aCons (eC (.str "others")) aNil)))))
 (sRet (eC (.bl false)))
 sSkip)
 (sSeq (sIf (eTest (eB dNe (eCall 4 A (aCons (eC (.int 1)) (aCons (eL dTupOf (aCons (eVar 1) aNil)) (aCons (eL dListOf (aCons (eVar 2) aNil)) (aCons (eVar 3) aNil))))) (eTup (aCons (eC (.str "refused")) (aCons (eC (.str "others")) aNil)))))
 (sRet (eC (.bl false)))
 sSkip)
 (sSeq (sAsg 9 (eL dListOf (aCons (eVar 2) aNil)))
 (sSeq (sIf (eTest (eB dGt (eL dLen (aCons (eVar 9) aNil)) (eC (.int 0))))
 (sSeq (sSub gSet (eVar 9) (eCall 2 F (aCons (eVar 0) (aCons (eL dLen (aCons (eVar 9) aNil)) aNil))) (eVar 4))
 (sIf (eTest (eB dNe (eCall 4 A (aCons (eC (.int 1)) (aCons (eL dTupOf (aCons (eVar 1) aNil)) (aCons (eL dTupOf (aCons (eVar 9) aNil)) (aCons (eVar 3) aNil))))) (eTup (aCons (eC (.str "refused")) (aCons (eC (.str "others")) aNil)))))
 (sRet (eC (.bl false)))
 sSkip))
 sSkip)
 (sSeq (sFor (iSeq (eLst (aCons (eC (.int 2)) (aCons (eC (.int 3)) aNil)))) (bName 7)
 (sIf (eTest (eB dNe (eCall 4 A (aCons (eVar 7) (aCons (eTup aNil) (aCons (eTup aNil) (aCons (eVar 3) aNil))))) (eTup (aCons (eC (.str "refused")) (aCons (eC (.str "row")) aNil)))))
 (sRet (eC (.bl false)))
 sSkip))
 (sRet (eC (.bl true)))))))))))))) [some (.lst 1), some (.lst (a + 2)), some (.lst (c + 2)), some (.bl b), none, none, none, none, none, none] (C :: P :: R)) = .ok (.bl true) (C' :: P' :: R') ∧ Kp R R' ∧ Pl C' P' (N + 10) := by
  obtain ⟨-, -, -, -, ax, ay, az, aw⟩ := hA
  have IL : IsRow (.tup (l.map dq)) := fun S => isrow_ok wl.qu (by rw [wl.len]; omega) S
  obtain ⟨d, C1, P1, R1, e1, bd, k1, h1⟩ := hB C P N R h (by omega)
  rw [seq_next (ret_asg ((call1 (var_ok rfl)).trans e1))]
  rw [show List.set [some (D.lst 1), some (.lst (a + 2)), some (.lst (c + 2)), some (.bl b), none, none, none, none, none, none] 4 (some d) = [some (.lst 1), some (.lst (a + 2)), some (.lst (c + 2)), some (.bl b), some d, none, none, none, none, none] from rfl]
  obtain ⟨k, C2, P2, e2, l2, h2⟩ := tk_at hF (R := R1) (ρ := [some (.lst 1), some (.lst (a + 2)), some (.lst (c + 2)), some (.bl b), some d, none, none, none, none, none]) (a := eVar 0) (e := eB dAdd (eL dLen (aCons (eVar 1) aNil)) (eC (.int 1))) (m := n + 1) h1 (var_ok rfl)
    ((add_ok (len_ev (i := 1) rfl (show (C1 :: P1 :: R1)[a + 2]? = _ from k1 a _ za)) c_ok).trans (by rw [List.length_map, wl.len]; rfl)) (by omega) (by omega) (by omega)
  rw [seq_next (ret_asg e2)]
  rw [show List.set [some (D.lst 1), some (.lst (a + 2)), some (.lst (c + 2)), some (.bl b), some d, none, none, none, none, none] 5 (some (D.int (k : Int))) = [some (.lst 1), some (.lst (a + 2)), some (.lst (c + 2)), some (.bl b), some d, some (.int (k : Int)), none, none, none, none] from rfl]
  obtain ⟨G, e3⟩ := spoilt_ok (ρ := [some (.lst 1), some (.lst (a + 2)), some (.lst (c + 2)), some (.bl b), some d, some (.int (k : Int)), none, none, none, none]) (S := C2 :: P2 :: R1) rfl rfl rfl (show (C2 :: P2 :: R1)[a + 2]? = _ from k1 a _ za) (k := k) (by rw [List.length_map, wl.len]; omega) (by rw [List.length_map, wl.len]; omega)
  rw [seq_next (ret_asg e3)]
  have esp : (l.map dq).take k ++ [d] ++ (l.map dq).drop k = (l.take k).map dq ++ d :: (l.drop k).map dq := by simp [List.map_take, List.map_drop]
  rw [esp]
  have NS : NoRow (.tup ((l.take k).map dq ++ d :: (l.drop k).map dq)) := fun S => isrow_bad (fun q hq => wl.qu q (List.mem_of_mem_take hq)) (fun q hq => wl.qu q (List.mem_of_mem_drop hq)) bd (by have := wl.len; simp; omega) S
  generalize D.tup ((l.take k).map dq ++ d :: (l.drop k).map dq) = sp at NS
  clear e1 e2 e3 esp
  have g0 : Sg C2 P2 R ((C2 :: P2 :: R1) ++ G) := Sg.app ⟨R1, rfl, k1⟩ G
  generalize (C2 :: P2 :: R1) ++ G = S0 at g0
  obtain ⟨ρ', S1, f1, g1, p7, rfl⟩ := for_all (st := fun _ => True) (b := bName 7)
    (body := sSeq (sIf (eTest (eB dNe (eCall 4 A (aCons (eVar 7) (aCons (eVar 6) (aCons (eL dTupOf (aCons (eVar 2) aNil)) (aCons (eVar 3) aNil))))) (eTup (aCons (eC (.str "refused")) (aCons (eC (.str "row")) aNil))))) (sRet (eC (.bl false))) sSkip)
      (sIf (eTest (eB dNe (eCall 4 A (aCons (eVar 7) (aCons (eL dListOf (aCons (eVar 1) aNil)) (aCons (eL dListOf (aCons (eVar 2) aNil)) (aCons (eVar 3) aNil))))) (eTup (aCons (eC (.str "refused")) (aCons (eC (.str "row")) aNil))))) (sRet (eC (.bl false))) sSkip))
    (fun i ρ S' => Sg C2 P2 R S' ∧ ∃ p7, ρ = [some (.lst 1), some (.lst (a + 2)), some (.lst (c + 2)), some (.bl b), some d, some (.int (k : Int)), some sp, p7, none, none]) (fun _ _ _ _ => trivial) (rngL 0 4)
    [some (.lst 1), some (.lst (a + 2)), some (.lst (c + 2)), some (.bl b), some d, some (.int (k : Int)), some sp, none, none, none] S0
    (fun i x ρ S' hx hI => by
      obtain ⟨g, p7, rfl⟩ := hI
      obtain ⟨hi, rfl⟩ := rng_at hx
      obtain ⟨G1, a1⟩ := ax i sp (.tup (r.map dq)) b S' hi NS
      obtain ⟨G2, a2⟩ := ax i (.lst (S' ++ G1).length) (.lst ((S' ++ G1) ++ [l.map dq]).length) b (((S' ++ G1) ++ [l.map dq]) ++ [r.map dq]) hi norow_lst
      refine ⟨[some (.lst 1), some (.lst (a + 2)), some (.lst (c + 2)), some (.bl b), some d, some (.int (k : Int)), some sp, some (.int (i : Int)), none, none], _, _, rfl, ?_, (((g.app G1).app [l.map dq]).app [r.map dq]).app G2, some (.int (i : Int)), rfl⟩
      rw [seq_next (ask_if ok_row ((call4 (var_ok rfl) (var_ok rfl) (tup_ev rfl (g.at zc)) (var_ok rfl)).trans a1))]
      rw [ask_if ok_row ((call4 (var_ok rfl) (list_ev rfl ((g.app G1).at za)) (list_ev rfl (((g.app G1).app [l.map dq]).at zc)) (var_ok rfl)).trans a2)])
    ⟨g0, none, rfl⟩
  rw [show List.set [some (D.lst 1), some (.lst (a + 2)), some (.lst (c + 2)), some (.bl b), some d, some (.int (k : Int)), none, none, none, none] 6 (some sp) = [some (.lst 1), some (.lst (a + 2)), some (.lst (c + 2)), some (.bl b), some d, some (.int (k : Int)), some sp, none, none, none] from rfl]
  rw [seq_next (for_rng (n := 4) rfl (by decide) f1)]
  clear f1 g0
  have q1 : ∀ S, eTup (aCons (eTup (aCons (eC (.int 1)) (aCons (eC (.int 2)) aNil))) aNil) [some (.lst 1), some (.lst (a + 2)), some (.lst (c + 2)), some (.bl b), some d, some (.int (k : Int)), some sp, p7, none, none] S = .ok (.tup [dq (1, 2)]) S := fun S => by
    simp [eTup, eL, aCons, aNil, eC, dTup_ok, dq]
  rw [seq_next (ret_asg (b_ok (tup_ev rfl (g1.at zc)) (q1 _) (add_tup (by simp; have := wr.len; omega))))]
  clear q1
  have elo : r.map dq ++ [dq (1, 2)] = (r ++ [(1, 2)]).map dq := by simp
  rw [elo]
  have ILo : IsRow (.tup ((r ++ [(1, 2)]).map dq)) := fun S => isrow_ok (fun q hq => by
    rcases List.mem_append.mp hq with hq | hq
    · exact wr.qu q hq
    · rw [List.mem_singleton.mp hq]
      exact ⟨by decide, by decide⟩) (by have := wr.len; simp; omega) S
  have nl1 : ((r ++ [(1, 2)]).map dq).length ≠ (l.map dq).length := by
    have := wl.len
    have := wr.len
    simp
    omega
  generalize (r ++ [((1 : Int), (2 : Int))]).map dq = lo at ILo nl1
  rw [show List.set [some (D.lst 1), some (.lst (a + 2)), some (.lst (c + 2)), some (.bl b), some d, some (.int (k : Int)), some sp, p7, none, none] 8 (some (.tup lo)) = [some (.lst 1), some (.lst (a + 2)), some (.lst (c + 2)), some (.bl b), some d, some (.int (k : Int)), some sp, p7, some (.tup lo), none] from rfl]
  obtain ⟨G1, a1⟩ := aw (l.map dq) lo b S1 IL ILo nl1
  rw [seq_next (ask_if ok_others ((call4 c_ok (tup_ev rfl (g1.at za)) (var_ok rfl) (var_ok rfl)).trans a1))]
  have g2 := g1.app G1
  generalize S1 ++ G1 = S2 at g2
  obtain ⟨G2, a2⟩ := aw lo (l.map dq) (!b) S2 ILo IL (Ne.symm nl1)
  rw [seq_next (ask_if ok_others ((call4 c_ok (var_ok rfl) (tup_ev rfl (g2.at za)) (not_v rfl)).trans a2))]
  have g3 := g2.app G2
  generalize S2 ++ G2 = S3 at g3
  obtain ⟨G3, a3⟩ := az (.tup (l.map dq)) (.lst S3.length) b (S3 ++ [r.map dq]) IL norow_lst
  rw [seq_next (ask_if ok_others ((call4 c_ok (tup_ev rfl (g3.at za)) (list_ev rfl (g3.at zc)) (var_ok rfl)).trans a3))]
  have g4 := (g3.app [r.map dq]).app G3
  generalize S3 ++ [r.map dq] ++ G3 = S4 at g4
  rw [seq_next (ret_asg (list_ev rfl (g4.at zc)))]
  rw [show List.set [some (D.lst 1), some (.lst (a + 2)), some (.lst (c + 2)), some (.bl b), some d, some (.int (k : Int)), some sp, p7, some (.tup lo), none] 9 (some (.lst S4.length)) = [some (.lst 1), some (.lst (a + 2)), some (.lst (c + 2)), some (.bl b), some d, some (.int (k : Int)), some sp, p7, some (.tup lo), some (.lst S4.length)] from rfl]
  obtain ⟨Y, rfl, kY⟩ := g4
  -- the row spoilt in place
  have h10 : ∃ (C' P' : List D) (S' : Sto), (sIf (eTest (eB dGt (eL dLen (aCons (eVar 9) aNil)) (eC (.int 0))))
     (sSeq (sSub gSet (eVar 9) (eCall 2 F (aCons (eVar 0) (aCons (eL dLen (aCons (eVar 9) aNil)) aNil))) (eVar 4))
     (sIf (eTest (eB dNe (eCall 4 A (aCons (eC (.int 1)) (aCons (eL dTupOf (aCons (eVar 1) aNil)) (aCons (eL dTupOf (aCons (eVar 9) aNil)) (aCons (eVar 3) aNil))))) (eTup (aCons (eC (.str "refused")) (aCons (eC (.str "others")) aNil)))))
     (sRet (eC (.bl false))) sSkip)) sSkip) [some (.lst 1), some (.lst (a + 2)), some (.lst (c + 2)), some (.bl b), some d, some (.int (k : Int)), some sp, p7, some (.tup lo), some (.lst (C2 :: P2 :: Y).length)] (C2 :: P2 :: Y ++ [r.map dq]) =
     .next [some (.lst 1), some (.lst (a + 2)), some (.lst (c + 2)), some (.bl b), some d, some (.int (k : Int)), some sp, p7, some (.tup lo), some (.lst (C2 :: P2 :: Y).length)] S' ∧ Sg C' P' R S' ∧ Pl C' P' (N + 10) := by
    have nw : ∀ C P : List D, (C :: P :: (Y ++ [r.map dq]))[(C2 :: P2 :: Y).length]? = some (r.map dq) := fun C P => by simp
    have el : ∀ C P : List D, eL dLen (aCons (eVar 9) aNil) [some (.lst 1), some (.lst (a + 2)), some (.lst (c + 2)), some (.bl b), some d, some (.int (k : Int)), some sp, p7, some (.tup lo), some (.lst (C2 :: P2 :: Y).length)] (C :: P :: (Y ++ [r.map dq])) = .ok (.int (n : Int)) (C :: P :: (Y ++ [r.map dq])) := fun C P =>
      (len_ev (i := 9) rfl (nw C P)).trans (by rw [List.length_map, wr.len])
    rw [show (C2 :: P2 :: Y ++ [r.map dq] : Sto) = C2 :: P2 :: (Y ++ [r.map dq]) from rfl]
    by_cases hp : (0 : Int) < n
    · rw [if_t (test_ok ((gt_ok (el _ _) c_ok).trans (by rw [decide_eq_true hp])))]
      obtain ⟨j, C3, P3, e5, l5, h3⟩ := tk_at hF (R := Y ++ [r.map dq]) (ρ := [some (.lst 1), some (.lst (a + 2)), some (.lst (c + 2)), some (.bl b), some d, some (.int (k : Int)), some sp, p7, some (.tup lo), some (.lst (C2 :: P2 :: Y).length)]) (a := eVar 0) (e := eL dLen (aCons (eVar 9) aNil)) (m := n) h2 (var_ok rfl) (el _ _) (by omega) (by omega) (by omega)
      have es : (C3 :: P3 :: (Y ++ [r.map dq])).set (C2 :: P2 :: Y).length ((r.map dq).set j d) = C3 :: P3 :: (Y ++ [(r.map dq).set j d]) := by simp
      rw [seq_next (sub_next (var_ok rfl) (var_ok rfl) e5 ((set_lst (nw C3 P3) (by rw [List.length_map, wr.len]; exact l5)).trans (by rw [es])))]
      have ein : (r.map dq).set j d = (r.take j).map dq ++ d :: (r.drop (j + 1)).map dq := by
        rw [List.set_eq_take_append_cons_drop, if_pos (by rw [List.length_map, wr.len]; exact l5), List.map_take, List.map_drop]
      have NI : NoRow (.tup ((r.map dq).set j d)) := fun S => by
        rw [ein]
        exact isrow_bad (fun q hq => wr.qu q (List.mem_of_mem_take hq)) (fun q hq => wr.qu q (List.mem_of_mem_drop hq)) bd (by have := wr.len; simp; omega) S
      obtain ⟨G4, a4⟩ := az (.tup (l.map dq)) (.tup ((r.map dq).set j d)) b (C3 :: P3 :: (Y ++ [(r.map dq).set j d])) IL NI
      have g5 : Sg C3 P3 R (C3 :: P3 :: (Y ++ [(r.map dq).set j d])) := ⟨_, rfl, kY.trans (Kp.app _ _)⟩
      refine ⟨C3, P3, _, ask_if ok_others ((call4 c_ok (tup_ev rfl (g5.at za)) (tup_ev (i := 9) rfl (by simp)) (var_ok rfl)).trans a4), g5.app G4, h3.mono (by omega)⟩
    · rw [if_s (test_ok ((gt_ok (el _ _) c_ok).trans (by rw [decide_eq_false hp])))]
      exact ⟨C2, P2, _, rfl, ⟨_, rfl, kY.trans (Kp.app _ _)⟩, h2.mono (by omega)⟩
  obtain ⟨C3, P3, S5, e10, g5, h3⟩ := h10
  rw [seq_next e10]
  clear e10
  have q2 : ∀ ρ S, eLst (aCons (eC (.int 2)) (aCons (eC (.int 3)) aNil)) ρ S = .ok (.lst S.length) (S ++ [[.int 2, .int 3]]) := fun ρ S => by
    simp [eLst, eL, aCons, aNil, eC, dLst_ok]
  have q3 : ∀ ρ S, eTup aNil ρ S = .ok (.tup []) S := fun ρ S => by
    simp [eTup, eL, aNil, dTup_ok]
  obtain ⟨ρ', S6, f2, ⟨g6, -⟩, p7', rfl⟩ := for_all (st := fun S' => S'[S5.length]? = some [D.int 2, .int 3]) (b := bName 7)
    (body := sIf (eTest (eB dNe (eCall 4 A (aCons (eVar 7) (aCons (eTup aNil) (aCons (eTup aNil) (aCons (eVar 3) aNil))))) (eTup (aCons (eC (.str "refused")) (aCons (eC (.str "row")) aNil))))) (sRet (eC (.bl false))) sSkip)
    (fun i ρ S' => (Sg C3 P3 R S' ∧ S'[S5.length]? = some [D.int 2, .int 3]) ∧ ∃ p7, ρ = [some (.lst 1), some (.lst (a + 2)), some (.lst (c + 2)), some (.bl b), some d, some (.int (k : Int)), some sp, p7, some (.tup lo), some (.lst (C2 :: P2 :: Y).length)]) (fun _ _ _ h => h.1.2) [.int 2, .int 3]
    [some (.lst 1), some (.lst (a + 2)), some (.lst (c + 2)), some (.bl b), some d, some (.int (k : Int)), some sp, p7, some (.tup lo), some (.lst (C2 :: P2 :: Y).length)] (S5 ++ [[.int 2, .int 3]])
    (fun i x ρ S' hx hI => by
      obtain ⟨⟨g, gz⟩, p7, rfl⟩ := hI
      have hx' : ∃ j : Nat, (j = 2 ∨ j = 3) ∧ x = .int (j : Int) := by
        match i, hx with
        | 0, hx => cases hx; exact ⟨2, .inl rfl, rfl⟩
        | 1, hx => cases hx; exact ⟨3, .inr rfl, rfl⟩
      obtain ⟨j, hj, rfl⟩ := hx'
      obtain ⟨G1, a1⟩ := ay j (.tup []) b S' hj
      refine ⟨[some (.lst 1), some (.lst (a + 2)), some (.lst (c + 2)), some (.bl b), some d, some (.int (k : Int)), some sp, some (.int (j : Int)), some (.tup lo), some (.lst (C2 :: P2 :: Y).length)], _, _, rfl, ask_if ok_row ((call4 (var_ok rfl) (q3 _ _) (q3 _ _) (var_ok rfl)).trans a1), ⟨g.app G1, Kp.app _ _ _ _ gz⟩, some (.int (j : Int)), rfl⟩)
    ⟨⟨g5.app _, by simp⟩, p7, rfl⟩
  rw [seq_next (for_lst (q2 _ _) (by simp) f2)]
  obtain ⟨Y', rfl, kY'⟩ := g6
  exact ⟨C3, P3, Y', rfl, kY', h3⟩
end LawM
end
section
set_option Elab.async false
set_option linter.all false
set_option maxRecDepth 100000
set_option maxHeartbeats 1000000
/-! P13: the pool's beginning, the folding, the orders. -/
namespace LawM
open PySem PySem.Spec PyProof.Rows L2 MP
theorem bits_bt {z : Int} (h : Builtin.Int.intBits z ≤ 1048576) : Bt z 2000000 := by
  unfold Builtin.Int.intBits at h
  by_cases hz : z = 0
  · subst hz
    exact Nat.pow_pos (by decide)
  · have e : (z == 0) = false := by simpa using hz
    rw [e] at h
    have h' : z.natAbs.log2 + 1 ≤ 1048576 := h
    have hn : z.natAbs ≠ 0 := by omega
    exact (Nat.log2_lt hn).mp (by omega)
theorem int_at {ns : List Int} {i : Nat} {x : D} (h : (ns.map D.int)[i]? = some x) : ∃ z, ns[i]? = some z ∧ D.int z = x := by
  rw [List.getElem?_map] at h
  cases hh : ns[i]? with
  | none => rw [hh] at h; cases h
  | some u => rw [hh] at h; exact ⟨u, rfl, Option.some.inj h⟩
theorem pool_ok {ns : List Int} (hb : ∀ z ∈ ns, Bt z 2000000) : ∃ P, rf__law_pool [.frl (ns.map D.int)] [] = .ok (.lst 1) [ns.map D.int, P] ∧ Pl (ns.map D.int) P 0 := by
  obtain ⟨ρ', S', e1, e2, s, x, e3, hs0, hs1⟩ := for_all (st := fun _ => True) (b := bName 2)
    (body := sAsg 1 (eB dMod (eL dInt (aCons (eB dAdd (eB dAdd (eB dMul (eVar 1) (eC (.int 31397))) (eB dMul (eVar 2) (eC (.int 2)))) (eC (.int 5))) aNil)) (eC (.int 2147450033))))
    (fun i ρ S' => S' = [] ∧ ∃ (s : Int) (x : Option D), ρ = [some (.frl (ns.map D.int)), some (.int s), x] ∧ 0 ≤ s ∧ s < 2147450033) (fun _ _ _ _ => trivial) (ns.map D.int)
    [some (.frl (ns.map D.int)), some (.int 0), none] []
    (fun i x ρ S' hx hI => by
      obtain ⟨e, s, x', rfl, h0, h1⟩ := hI
      subst e
      obtain ⟨z, hz, rfl⟩ := int_at hx
      have bz := hb z (List.mem_of_getElem? hz)
      have bs : Bt s 31 := bt_of h0 h1 (by decide)
      have c1 := mulA (y := 31397) (b := 20) bs (by unfold Bt; decide) (by decide)
      have c2 := mulA (y := 2) (b := 2) bz (by unfold Bt; decide) (by decide)
      obtain ⟨f1, f2⟩ := fmod_range (a := s * 31397 + z * 2 + 5) (m := 2147450033) (by decide)
      have n1 : CModA (s * 31397 + z * 2 + 5) 2147450033 := by unfold CModA; decide
      refine ⟨_, [some (.frl (ns.map D.int)), some (.int ((s * 31397 + z * 2 + 5).fmod 2147450033)), some (.int z)], _, rfl, ?_, rfl, _, _, rfl, f1, f2⟩
      simp [eVar, eC, eB, eU, eL, boolOf, eTest, eNotT, eAndT, eOrT, eNot, eAnd, eOr, eIf, aNil, aCons, eTup, eLst, eChain, sSkip, sSeq, sAsg, sPar, sExpr, sRet, sRetN, sIf, sBrk, sCont, sSub, eCall, eKw, runDef, begins, dI0, dI, dSub, dLt, dLe, dGt, dGe, dNeg, dInt, dAbs, dGcd, dDiv, dMod, sBind, bTup, bCons, bNil, bName, eMt, iSeq, iRange, ofRes, flowRes, srcOf, dMul_int c1, dMul_int c2, n1])
    ⟨rfl, 0, none, rfl, by decide, by decide⟩
  subst e2 e3
  refine ⟨[.lst 0, .int 0, .int 0, .int s, .int ns.length], ?_, ⟨ns, 0, 0, s, ns.length, rfl, rfl, hb, ⟨by decide, Nat.pow_pos (by decide)⟩, ⟨by decide, by decide⟩, (bt_of (k := 31) hs0 hs1 (by decide)).mono (by decide)⟩⟩
  unfold rf__law_pool runDef ev__law_pool
  rw [seq_next (ρ' := [some (.frl (ns.map D.int)), some (.int 0), none]) (S' := []) (by simp [eVar, eC, eB, eU, eL, boolOf, eTest, eNotT, eAndT, eOrT, eNot, eAnd, eOr, eIf, aNil, aCons, eTup, eLst, eChain, sSkip, sSeq, sAsg, sPar, sExpr, sRet, sRetN, sIf, sBrk, sCont, sSub, eCall, eKw, runDef, begins, dI0, dI, dSub, dLt, dLe, dGt, dGe, dNeg, dInt, dAbs, dGcd, dDiv, dMod, sBind, bTup, bCons, bNil, bName, eMt, iSeq, iRange, ofRes, flowRes, srcOf])]
  rw [seq_next (ρ' := [some (.frl (ns.map D.int)), some (.int s), x]) (S' := [])]
  · simp [eVar, eC, eB, eU, eL, boolOf, eTest, eNotT, eAndT, eOrT, eNot, eAnd, eOr, eIf, aNil, aCons, eTup, eLst, eChain, sSkip, sSeq, sAsg, sPar, sExpr, sRet, sRetN, sIf, sBrk, sCont, sSub, eCall, eKw, runDef, begins, dI0, dI, dSub, dLt, dLe, dGt, dGe, dNeg, dInt, dAbs, dGcd, dDiv, dMod, sBind, bTup, bCons, bNil, bName, eMt, iSeq, iRange, ofRes, flowRes, srcOf, dLen, dListOf, itemsOf, dLst_ok]
  · unfold sFor
    simp only [eVar, eC, eB, eU, eL, boolOf, eTest, eNotT, eAndT, eOrT, eNot, eAnd, eOr, eIf, aNil, aCons, eTup, eLst, eChain, sSkip, sSeq, sAsg, sPar, sExpr, sRet, sRetN, sIf, sBrk, sCont, sSub, eCall, eKw, runDef, begins, dI0, dI, dSub, dLt, dLe, dGt, dGe, dNeg, dInt, dAbs, dGcd, dDiv, dMod, sBind, bTup, bCons, bNil, bName, eMt, iSeq, iRange, ofRes, flowRes, srcOf, Res.bind_ok, List.getElem?_cons_zero]
    exact e1
/-! folding -/
theorem kw2 {F : List D → Sto → Res D} {a b : Ev} {ρ : MP.Env} {S S1 S2 : Sto} {x y : D} (h1 : a ρ S = .ok x S1) (h2 : b ρ S1 = .ok y S2) : eKw 0 2 2 pm01 F aNil (aCons a (aCons b aNil)) ρ S = F [x, y] S2 := by
  simp [eKw, aCons, aNil, h1, h2, pm01]
theorem st_self {q : Int × Int} (h : Qu q) : St q q.1 q.2 := ⟨h, Int.mul_comm _ _⟩
theorem st_01 : St (0, 1) 0 1 := ⟨⟨by decide, by decide⟩, by decide⟩
theorem st_add {p q : Int × Int} {T B T' B' T2 B2 : Int} (h : St p T B) (k : St q T' B') (e1 : T2 = T * B' + T' * B) (e2 : B2 = B * B') : St (low (p.1 * q.2 + q.1 * p.2) (p.2 * q.2)) T2 B2 := by
  obtain ⟨⟨h1, -⟩, h2⟩ := h
  obtain ⟨⟨k1, -⟩, k2⟩ := k
  refine st_low (Int.mul_pos (by omega) (by omega)) ?_
  subst e1 e2
  generalize p.1 = a at *
  generalize p.2 = b at *
  generalize q.1 = c at *
  generalize q.2 = d at *
  grind
theorem eAnd_ok {a b : Ev} {ρ : MP.Env} {S S1 S2 : Sto} {d : D} (h1 : a ρ S = .ok (.bl true) S1) (h2 : b ρ S1 = .ok d S2) : eAnd a b ρ S = .ok d S2 := by
  unfold eAnd
  rw [h1, Res.bind_ok]
  exact h2
theorem take_len {α : Type} {l : List α} {n : Nat} (h : l.length = n) : l.take n = l := by
  rw [← h, List.take_length]
theorem folded_ok {n : Nat} {l r : List (Int × Int)} {qt qh : Int × Int} {S : Sto} {a b : Nat} (h : Rw 8 n l) (h' : Rw 8 n r) (hn : n ≤ 40) (ht : St qt (fold l).1 (fold l).2) (hh : St qh (fold (zl l r)).1 (fold (zl l r)).2)
    (ha : S[a]? = some (l.map dq)) (hb : S[b]? = some (r.map dq)) : rf__law_folded [.lst a, .lst b, dq qt, dq qh] S = .ok (.bl true) S := by
  have F1 := h.fr (by omega)
  have F2 := h.zz h' (by omega)
  have zn := zl_len h h'
  obtain ⟨ρ', S', e1, e2, p6, u, v, e3, e4, e5⟩ := for_all (st := fun _ => True) (b := bName 6)
    (body := sSeq (sAsg 4 (eCall 2 rf_plus (aCons (eVar 4) (aCons (eB dIx (eVar 0) (eVar 6)) aNil))))
      (sAsg 5 (eKw 0 2 2 pm01 rf_plus aNil (aCons (eCall 2 rf_times (aCons (eB dIx (eVar 0) (eVar 6)) (aCons (eB dIx (eVar 1) (eVar 6)) aNil))) (aCons (eVar 5) aNil)))))
    (fun i ρ S' => S' = S ∧ ∃ (p6 : Option D) (u v : Int × Int), ρ = [some (.lst a), some (.lst b), some (dq qt), some (dq qh), some (dq u), some (dq v), p6] ∧ St u (foldF (l.take i) (0, 1)).1 (foldF (l.take i) (0, 1)).2 ∧ St v (foldF ((zl l r).take i) (0, 1)).1 (foldF ((zl l r).take i) (0, 1)).2)
    (fun _ _ _ _ => trivial) (rngL 0 n) [some (.lst a), some (.lst b), some (dq qt), some (dq qh), some (dq (0, 1)), some (dq (0, 1)), none] S
    (fun i x ρ S' hx hI => by
      obtain ⟨e, p6, u, v, rfl, hu, hv⟩ := hI
      subst e
      obtain ⟨hi, rfl⟩ := rng_at hx
      obtain ⟨p, hp⟩ := at_lt (l := l) (i := i) (by rw [h.len]; exact hi)
      obtain ⟨q, hq⟩ := at_lt (l := r) (i := i) (by rw [h'.len]; exact hi)
      have bp := h.bt p (List.mem_of_getElem? hp)
      have bq := h'.bt q (List.mem_of_getElem? hq)
      have qp := h.qu p (List.mem_of_getElem? hp)
      have qq := h'.qu q (List.mem_of_getElem? hq)
      obtain ⟨t1, t2⟩ := F1.bt (by rw [h.len]; omega) i
      obtain ⟨t3, t4⟩ := F2.bt (by rw [zn]; omega) i
      have z1 := take_next hp
      have z2 := take_next (zl_at hp hq)
      have P1 : 0 < (foldF (l.take i) (0, 1)).2 := foldF_pos _ _ _ (by decide) fun y hy => (F1.1 y (List.mem_of_mem_take hy)).1
      have P2 : 0 < (foldF ((zl l r).take i) (0, 1)).2 := foldF_pos _ _ _ (by decide) fun y hy => (F2.1 y (List.mem_of_mem_take hy)).1
      obtain ⟨u1, u2⟩ := st_bt hu P1 t1 t2
      obtain ⟨v1, v2⟩ := st_bt hv P2 t3 t4
      have i1 := ix_lst ha (at_dq hp)
      have i2 := ix_lst hb (at_dq hq)
      have k1 := plus_ok (S := S') hu.1 qp (mulA u1 bp.2 (by omega)) (mulA bp.1 u2 (by omega)) (mulA u2 bp.2 (by omega)) ((u2.mul bp.2).mono (show 8950 + 8 ≤ 8990 by omega))
      have pp : 0 < p.2 * q.2 := Int.mul_pos (by have := qp.1; omega) (by have := qq.1; omega)
      have k2 := times_ok (S := S') qp qq (mulA bp.1 bq.1 (by omega)) (mulA bp.2 bq.2 (by omega)) ((bp.2.mul bq.2).mono (show 8 + 8 ≤ 8990 by omega))
      have m1 : St (low (p.1 * q.1) (p.2 * q.2)) (p.1 * q.1) (p.2 * q.2) := st_low pp (Int.mul_comm _ _)
      have m2 := low_bt pp (bp.1.mul bq.1)
      have m3 := low_bt2 (a := p.1 * q.1) pp (bp.2.mul bq.2)
      generalize low (p.1 * q.1) (p.2 * q.2) = m at k2 m1 m2 m3
      have k3 := plus_ok (S := S') m1.1 hv.1 (mulA m2 v2 (by omega)) (mulA v1 m3 (by omega)) (mulA m3 v2 (by omega)) ((m3.mul v2).mono (show 8 + 8 + 8950 ≤ 8990 by omega))
      refine ⟨[some (.lst a), some (.lst b), some (dq qt), some (dq qh), some (dq u), some (dq v), some (.int (i : Int))], [some (.lst a), some (.lst b), some (dq qt), some (dq qh), some (dq (low (u.1 * p.2 + p.1 * u.2) (u.2 * p.2))), some (dq (low (m.1 * v.2 + v.1 * m.2) (m.2 * v.2))), some (.int (i : Int))], S', rfl, ?_, rfl, some (.int (i : Int)), _, _, rfl, ?_, ?_⟩
      · rw [seq_next (ret_asg ((call2 (var_ok rfl) (b_ok (var_ok rfl) (var_ok rfl) i1)).trans k1))]
        rw [ret_asg ((kw2 ((call2 (b_ok (var_ok rfl) (var_ok rfl) i1) (b_ok (var_ok rfl) (var_ok rfl) i2)).trans k2) (var_ok rfl)).trans k3)]
        rfl
      · rw [z1, foldF_snoc]
        exact st_add hu (st_self qp) rfl rfl
      · rw [z2, foldF_snoc]
        refine st_add m1 hv ?_ ?_
        · unfold fold1
          exact Int.add_comm _ _
        · unfold fold1
          exact Int.mul_comm _ _)
    ⟨rfl, none, (0, 1), (0, 1), rfl, by rw [List.take_zero]; exact st_01, by rw [List.take_zero]; exact st_01⟩
  rw [rngL_length, take_len h.len] at e4
  rw [rngL_length, take_len zn] at e5
  have eu : u = qt := St.eq e4 ht (Int.ne_of_gt F1.st.2)
  have ev : v = qh := St.eq e5 hh (Int.ne_of_gt F2.st.2)
  subst e2 e3 eu ev
  have hl : dLen [.lst a] S' = some (.int (n : Int), S') := by
    rw [len_lst ha]
    simp [h.len]
  unfold rf__law_folded runDef ev__law_folded
  have q0 : ∀ ρ, eTup (aCons (eC (.int 0)) (aCons (eC (.int 1)) aNil)) ρ S' = .ok (dq (0, 1)) S' := fun ρ => by
    simp [eTup, eL, aCons, aNil, eC, dTup_ok, dq]
  rw [show begins 7 [D.lst a, .lst b, dq u, dq v] = [some (.lst a), some (.lst b), some (dq u), some (dq v), none, none, none] from rfl]
  rw [seq_next (ret_asg (q0 _)), seq_next (ret_asg (q0 _))]
  simp only [List.set_cons_zero, List.set_cons_succ]
  rw [seq_next (for_rng (n := n) (by simp [eVar, eC, eB, eU, eL, boolOf, eTest, eNotT, eAndT, eOrT, eNot, eAnd, eOr, eIf, aNil, aCons, eTup, eLst, eChain, sSkip, sSeq, sAsg, sPar, sExpr, sRet, sRetN, sIf, sBrk, sCont, sSub, eCall, eKw, runDef, begins, dI0, dI, dSub, dLt, dLe, dGt, dGe, dNeg, dInt, dAbs, dGcd, dDiv, dMod, sBind, bTup, bCons, bNil, bName, eMt, iSeq, iRange, ofRes, flowRes, srcOf, hl]) (by omega) e1)]
  rw [ret_ret (eAnd_ok (b_ok (var_ok rfl) (var_ok rfl) (show dEq (dq u) (dq u) S' = some (.bl true, S') from by simp)) (b_ok (var_ok rfl) (var_ok rfl) (show dEq (dq v) (dq v) S' = some (.bl true, S') from by simp)))]
  rfl
/-! orders -/
theorem cut_mem {xs : List D} {lo hi : Option Int} {x : D} (h : x ∈ MP.cutD xs lo hi) : x ∈ xs := by
  unfold MP.cutD at h
  exact List.mem_of_mem_drop (List.mem_of_mem_take h)
theorem sl_both {i l : Nat} {ρ : MP.Env} {S : Sto} {xs : List D} {e1 e2 : Ev} {j k : Int} (h : ρ[i]? = some (some (.lst l))) (hl : S[l]? = some xs) (h1 : e1 ρ S = .ok (.int j) S) (h2 : e2 ρ S = .ok (.int k) S) : eSl (eVar i) (some e1) (some e2) ρ S = .ok (.lst S.length) (S ++ [MP.cutD xs (some j) (some k)]) := by
  unfold eSl
  simp only [var_ok h, Res.bind_ok, h1, h2, dSl, hl, Option.map_some, lift_some]
theorem lt_ok {a b : Ev} {ρ : MP.Env} {S S1 S2 : Sto} {x y : Int} (h1 : a ρ S = .ok (.int x) S1) (h2 : b ρ S1 = .ok (.int y) S2) : eB dLt a b ρ S = .ok (.bl (decide (x < y))) S2 := b_ok h1 h2 rfl
theorem u_ok {g : D → Sto → Option (D × Sto)} {a : Ev} {ρ : MP.Env} {S S1 S2 : Sto} {x z : D} (h1 : a ρ S = .ok x S1) (h3 : g x S1 = some (z, S2)) : eU g a ρ S = .ok z S2 := by
  unfold eU
  rw [h1, Res.bind_ok, h3, lift_some]
theorem ordered_ok {β : Nat} {l : List (Int × Int)} {a : Nat} {C P : List D} {N : Nat} {R : Sto} (hq : ∀ q ∈ l, Qu q) (hb : Bts l β) (hβ : β ≤ 4450) (h0 : 0 < l.length) (hn : l.length ≤ 1000) (h : Pl C P N) (hN : N < 2 ^ 40) (ha : R[a]? = some (l.map dq)) :
    ∃ S', rf__law_ordered [.lst (a + 2), .lst 1] (C :: P :: R) = .ok (.bl true) S' := by
  unfold rf__law_ordered runDef ev__law_ordered
  obtain ⟨k, C1, P1, e1, l1, h1⟩ := tk_at take_is (R := R) (ρ := [some (.lst (a + 2)), some (.lst 1), none, none, none, none]) (a := eVar 1) (e := eL dLen (aCons (eVar 0) aNil)) (m := l.length) h (var_ok rfl)
    ((len_ev (i := 0) rfl (show (C :: P :: R)[a + 2]? = _ from ha)).trans (by rw [List.length_map])) h0 (by omega) (by omega)
  rw [show begins 6 [D.lst (a + 2), .lst 1] = [some (.lst (a + 2)), some (.lst 1), none, none, none, none] from rfl]
  rw [seq_next (ret_asg e1)]
  rw [show List.set [some (D.lst (a + 2)), some (.lst 1), none, none, none, none] 2 (some (D.int (k : Int))) = [some (.lst (a + 2)), some (.lst 1), some (.int (k : Int)), none, none, none] from rfl]
  have es := sl_both (i := 0) (ρ := [some (.lst (a + 2)), some (.lst 1), some (.int (k : Int)), none, none, none]) (S := C1 :: P1 :: R) (e1 := eVar 2) (e2 := eB dAdd (eVar 2) (eC (.int 9))) rfl (show (C1 :: P1 :: R)[a + 2]? = _ from ha) (var_ok rfl) (add_ok (var_ok rfl) c_ok)
  have hX : ∀ x ∈ MP.cutD (l.map dq) (some (k : Int)) (some ((k : Int) + 9)), x ∈ l.map dq := fun x hx => cut_mem hx
  generalize MP.cutD (l.map dq) (some (k : Int)) (some ((k : Int) + 9)) = X at es hX
  have g0 : Sg C1 P1 R (C1 :: P1 :: R ++ [X]) := (Sg.app ⟨R, rfl, Kp.refl R⟩ _)
  have gX : (C1 :: P1 :: R ++ [X])[(C1 :: P1 :: R).length]? = some X := by simp
  generalize (C1 :: P1 :: R).length = o at es gX
  generalize C1 :: P1 :: R ++ [X] = S0 at es g0 gX
  obtain ⟨ρ', S', e2, ⟨g1, -⟩, p3, p4, p5, rfl⟩ := for_all (st := fun S' => S'[o]? = some X) (b := bName 3)
    (body := sFor (iSeq (eSl (eVar 0) none (some (eC (.int 9))))) (bName 4)
       (sSeq (sAsg 5 (eCall 2 rf_is_less (aCons (eVar 3) (aCons (eVar 4) aNil))))
       (sIf (eOrT (eNotT (eTest (eU (dIsi "bool") (eVar 5)))) (eTest (eB dNe (eVar 5) (eB dLt (eB dMul (eB dIx (eVar 3) (eC (.int 0))) (eB dIx (eVar 4) (eC (.int 1)))) (eB dMul (eB dIx (eVar 4) (eC (.int 0))) (eB dIx (eVar 3) (eC (.int 1))))))))
       (sRet (eC (.bl false))) sSkip)))
    (fun i ρ S' => (Sg C1 P1 R S' ∧ S'[o]? = some X) ∧ ∃ p3 p4 p5, ρ = [some (.lst (a + 2)), some (.lst 1), some (.int (k : Int)), p3, p4, p5]) (fun _ _ _ h => h.1.2) X
    [some (.lst (a + 2)), some (.lst 1), some (.int (k : Int)), none, none, none] S0
    (fun i x ρ S' hx hI => by
      obtain ⟨⟨g, gz⟩, p3, p4, p5, rfl⟩ := hI
      obtain ⟨u, mu, rfl⟩ := List.mem_map.mp (hX x (List.mem_of_getElem? hx))
      have es2 := sl_lo (i := 0) (ρ := [some (.lst (a + 2)), some (.lst 1), some (.int (k : Int)), some (dq u), p4, p5]) (S := S') (e := eC (.int 9)) (k := 9) rfl (g.at ha) c_ok
      have hY : ∀ x ∈ (l.map dq).take 9, x ∈ l.map dq := fun x hx => List.mem_of_mem_take hx
      generalize (l.map dq).take 9 = Y at es2 hY
      obtain ⟨ρ2, S2, e3, e4, q4, q5, rfl⟩ := for_all (st := fun S2 => S2[S'.length]? = some Y) (b := bName 4)
        (body := sSeq (sAsg 5 (eCall 2 rf_is_less (aCons (eVar 3) (aCons (eVar 4) aNil))))
           (sIf (eOrT (eNotT (eTest (eU (dIsi "bool") (eVar 5)))) (eTest (eB dNe (eVar 5) (eB dLt (eB dMul (eB dIx (eVar 3) (eC (.int 0))) (eB dIx (eVar 4) (eC (.int 1)))) (eB dMul (eB dIx (eVar 4) (eC (.int 0))) (eB dIx (eVar 3) (eC (.int 1))))))))
           (sRet (eC (.bl false))) sSkip))
        (fun j ρ S2 => S2 = S' ++ [Y] ∧ ∃ p4 p5, ρ = [some (.lst (a + 2)), some (.lst 1), some (.int (k : Int)), some (dq u), p4, p5]) (fun _ _ _ h => by rw [h.1]; simp) Y
        [some (.lst (a + 2)), some (.lst 1), some (.int (k : Int)), some (dq u), p4, p5] (S' ++ [Y])
        (fun j y ρ S2 hy hJ => by
          obtain ⟨e, p4, p5, rfl⟩ := hJ
          subst e
          obtain ⟨v, mv, rfl⟩ := List.mem_map.mp (hY y (List.mem_of_getElem? hy))
          have bu := hb u mu
          have bv := hb v mv
          have c1 := mulA bu.1 bv.2 (by omega)
          have c2 := mulA bv.1 bu.2 (by omega)
          have kl := less_ok (S := S' ++ [Y]) (hq u mu) (hq v mv) c1 c2
          refine ⟨[some (.lst (a + 2)), some (.lst 1), some (.int (k : Int)), some (dq u), some (dq v), p5], [some (.lst (a + 2)), some (.lst 1), some (.int (k : Int)), some (dq u), some (dq v), some (.bl (decide (u.1 * v.2 < v.1 * u.2)))], _, rfl, ?_, rfl, _, _, rfl⟩
          rw [seq_next (ret_asg ((call2 (var_ok rfl) (var_ok rfl)).trans kl))]
          rw [if_s (or_2 (not_b (test_ok (b := true) (u_ok (var_ok rfl) isi_bb)))
            (test_ok (b := false) (b_ok (var_ok rfl) (lt_ok (mul_ok c1 (b_ok (var_ok rfl) c_ok ix_dq0) (b_ok (var_ok rfl) c_ok ix_dq1)) (mul_ok c2 (b_ok (var_ok rfl) c_ok ix_dq0) (b_ok (var_ok rfl) c_ok ix_dq1))) (show dNe (.bl _) (.bl _) (S' ++ [Y]) = some (.bl false, S' ++ [Y]) from by rw [dNe_bl]; simp))))]
          rfl)
        ⟨rfl, p4, p5, rfl⟩
      refine ⟨_, _, _, rfl, for_lst es2 (by simp) e3, ⟨by rw [e4]; exact g.app _, by rw [e4]; exact Kp.app _ _ _ _ gz⟩, _, _, _, rfl⟩)
    ⟨⟨g0, gX⟩, none, none, none, rfl⟩
  rw [seq_next (for_lst es gX e2)]
  exact ⟨S', rfl⟩
end LawM
end
section
set_option Elab.async false
set_option linter.all false
set_option maxRecDepth 100000
set_option maxHeartbeats 4000000
/-! the walk -/
namespace LawM
open PySem PySem.Spec PyProof.Rows L2 MP
def top (i : Nat) : Stmt := PySem.Challenge.pw_hungwall_k01_whole_sums_and_orders.main.body.getD i (.Pass ⟨0, 0, 0, 0⟩)
abbrev s_settle : Stmt := top 2
abbrev s_is_integer : Stmt := top 8
abbrev s_is_quotient : Stmt := top 9
abbrev s__is_row : Stmt := top 15
abbrev s_total : Stmt := top 11
abbrev s_weighed : Stmt := top 12
abbrev s__need_some : Stmt := top 16
abbrev s_least_of : Stmt := top 13
abbrev s_greatest_of : Stmt := top 14
abbrev s__need_two : Stmt := top 21
abbrev s_plus : Stmt := top 18
abbrev s_times : Stmt := top 19
abbrev s_is_less : Stmt := top 20
abbrev s__law_mixed : Stmt := top 23
abbrev s__law_pool : Stmt := top 24
abbrev s__law_take : Stmt := top 25
abbrev s__law_whole : Stmt := top 26
abbrev s__law_common : Stmt := top 27
abbrev s__law_low : Stmt := top 28
abbrev s__law_quotient : Stmt := top 29
abbrev s__law_stands : Stmt := top 30
abbrev s__law_draw : Stmt := top 31
abbrev s__law_rows : Stmt := top 32
abbrev s__law_bad : Stmt := top 33
abbrev s__law_ask : Stmt := top 34
abbrev s__law_sum : Stmt := top 35
abbrev s__law_end : Stmt := top 36
abbrev s__law_folded : Stmt := top 37
abbrev s__law_ordered : Stmt := top 38
abbrev s__law_refused : Stmt := top 39
abbrev s_law : Stmt := top 40
structure Ft (P : Program) (w : World) (K : PySem.W.Frag) (mg : Str → Option Value) (base : Heap) : Prop where
  fr_abs : mg "abs" = none
  fr_all : mg "all" = none
  fr_bool : mg "bool" = none
  fr_int : mg "int" = none
  fr_isinstance : mg "isinstance" = none
  fr_len : mg "len" = none
  fr_list : mg "list" = none
  fr_range : mg "range" = none
  fr_str : mg "str" = none
  fr_sum : mg "sum" = none
  fr_tuple : mg "tuple" = none
  fr_zip : mg "zip" = none
  bl_gcd : mg "gcd" = some (.builtin "math.gcd")
  bl_lcm : mg "lcm" = some (.builtin "math.lcm")
  g_settle : mg "settle" = some (.ref (He.ga K "settle"))
  g_is_integer : mg "is_integer" = some (.ref (He.ga K "is_integer"))
  g_is_quotient : mg "is_quotient" = some (.ref (He.ga K "is_quotient"))
  g__is_row : mg "_is_row" = some (.ref (He.ga K "_is_row"))
  g_total : mg "total" = some (.ref (He.ga K "total"))
  g_weighed : mg "weighed" = some (.ref (He.ga K "weighed"))
  g__need_some : mg "_need_some" = some (.ref (He.ga K "_need_some"))
  g_least_of : mg "least_of" = some (.ref (He.ga K "least_of"))
  g_greatest_of : mg "greatest_of" = some (.ref (He.ga K "greatest_of"))
  g__need_two : mg "_need_two" = some (.ref (He.ga K "_need_two"))
  g_plus : mg "plus" = some (.ref (He.ga K "plus"))
  g_times : mg "times" = some (.ref (He.ga K "times"))
  g_is_less : mg "is_less" = some (.ref (He.ga K "is_less"))
  g__law_mixed : mg "_law_mixed" = some (.ref (He.ga K "_law_mixed"))
  g__law_pool : mg "_law_pool" = some (.ref (He.ga K "_law_pool"))
  g__law_take : mg "_law_take" = some (.ref (He.ga K "_law_take"))
  g__law_whole : mg "_law_whole" = some (.ref (He.ga K "_law_whole"))
  g__law_common : mg "_law_common" = some (.ref (He.ga K "_law_common"))
  g__law_low : mg "_law_low" = some (.ref (He.ga K "_law_low"))
  g__law_quotient : mg "_law_quotient" = some (.ref (He.ga K "_law_quotient"))
  g__law_stands : mg "_law_stands" = some (.ref (He.ga K "_law_stands"))
  g__law_draw : mg "_law_draw" = some (.ref (He.ga K "_law_draw"))
  g__law_rows : mg "_law_rows" = some (.ref (He.ga K "_law_rows"))
  g__law_bad : mg "_law_bad" = some (.ref (He.ga K "_law_bad"))
  g__law_ask : mg "_law_ask" = some (.ref (He.ga K "_law_ask"))
  g__law_sum : mg "_law_sum" = some (.ref (He.ga K "_law_sum"))
  g__law_end : mg "_law_end" = some (.ref (He.ga K "_law_end"))
  g__law_folded : mg "_law_folded" = some (.ref (He.ga K "_law_folded"))
  g__law_ordered : mg "_law_ordered" = some (.ref (He.ga K "_law_ordered"))
  g__law_refused : mg "_law_refused" = some (.ref (He.ga K "_law_refused"))
  g_law : mg "law" = some (.ref (He.ga K "law"))
  f_settle : ∃ fd, Fun K "settle" "settle" s_settle (He.ga K "settle") fd
  f_is_integer : ∃ fd, Fun K "is_integer" "is_integer" s_is_integer (He.ga K "is_integer") fd
  f_is_quotient : ∃ fd, Fun K "is_quotient" "is_quotient" s_is_quotient (He.ga K "is_quotient") fd
  f__is_row : ∃ fd, Fun K "_is_row" "_is_row" s__is_row (He.ga K "_is_row") fd
  f_total : ∃ fd, Fun K "total" "total" s_total (He.ga K "total") fd
  f_weighed : ∃ fd, Fun K "weighed" "weighed" s_weighed (He.ga K "weighed") fd
  f__need_some : ∃ fd, Fun K "_need_some" "_need_some" s__need_some (He.ga K "_need_some") fd
  f_least_of : ∃ fd, Fun K "least_of" "least_of" s_least_of (He.ga K "least_of") fd
  f_greatest_of : ∃ fd, Fun K "greatest_of" "greatest_of" s_greatest_of (He.ga K "greatest_of") fd
  f__need_two : ∃ fd, Fun K "_need_two" "_need_two" s__need_two (He.ga K "_need_two") fd
  f_plus : ∃ fd, Fun K "plus" "plus" s_plus (He.ga K "plus") fd
  f_times : ∃ fd, Fun K "times" "times" s_times (He.ga K "times") fd
  f_is_less : ∃ fd, Fun K "is_less" "is_less" s_is_less (He.ga K "is_less") fd
  f__law_mixed : ∃ fd, Fun K "_law_mixed" "_law_mixed" s__law_mixed (He.ga K "_law_mixed") fd
  f__law_pool : ∃ fd, Fun K "_law_pool" "_law_pool" s__law_pool (He.ga K "_law_pool") fd
  f__law_take : ∃ fd, Fun K "_law_take" "_law_take" s__law_take (He.ga K "_law_take") fd
  f__law_whole : ∃ fd, Fun K "_law_whole" "_law_whole" s__law_whole (He.ga K "_law_whole") fd
  f__law_common : ∃ fd, Fun K "_law_common" "_law_common" s__law_common (He.ga K "_law_common") fd
  f__law_low : ∃ fd, Fun K "_law_low" "_law_low" s__law_low (He.ga K "_law_low") fd
  f__law_quotient : ∃ fd, Fun K "_law_quotient" "_law_quotient" s__law_quotient (He.ga K "_law_quotient") fd
  f__law_stands : ∃ fd, Fun K "_law_stands" "_law_stands" s__law_stands (He.ga K "_law_stands") fd
  f__law_draw : ∃ fd, Fun K "_law_draw" "_law_draw" s__law_draw (He.ga K "_law_draw") fd
  f__law_rows : ∃ fd, Fun K "_law_rows" "_law_rows" s__law_rows (He.ga K "_law_rows") fd
  f__law_bad : ∃ fd, Fun K "_law_bad" "_law_bad" s__law_bad (He.ga K "_law_bad") fd
  f__law_ask : ∃ fd, Fun K "_law_ask" "_law_ask" s__law_ask (He.ga K "_law_ask") fd
  f__law_sum : ∃ fd, Fun K "_law_sum" "_law_sum" s__law_sum (He.ga K "_law_sum") fd
  f__law_end : ∃ fd, Fun K "_law_end" "_law_end" s__law_end (He.ga K "_law_end") fd
  f__law_folded : ∃ fd, Fun K "_law_folded" "_law_folded" s__law_folded (He.ga K "_law_folded") fd
  f__law_ordered : ∃ fd, Fun K "_law_ordered" "_law_ordered" s__law_ordered (He.ga K "_law_ordered") fd
  f__law_refused : ∃ fd, Fun K "_law_refused" "_law_refused" s__law_refused (He.ga K "_law_refused") fd
  f_law : ∃ fd, Fun K "law" "law" s_law (He.ga K "law") fd
  e_NotUsable : OkE P w K mg base "NotUsable" ["word", "at"]
  x_NotUsable : PySem.W.exmOne K (.ref (He.ga K "NotUsable")) (.ref (He.ga K "NotUsable")) = some true
variable {P : Program} {w : World} {K : PySem.W.Frag} {mg : Str → Option Value} {base : Heap}
theorem sc_settle : FnScope N_settle ["top", "bottom"] (defScope s_settle) := ⟨rfl, rfl, rfl, by decide +kernel, rfl, by decide +kernel, by decide +kernel⟩
theorem ok_settle (Z : Ft P w K mg base) : OkD P w K mg base 1 "settle" s_settle ["top", "bottom"] rf_settle := okd Z.g_settle Z.f_settle sc_settle (fun _ _ _ _ _ _ us hl => match us, hl with | [_, _], _ => rfl) (fun cdv A outer s H E hr =>
 (mss_cons (ms_set 2 (me_callBf cd_gcd (ma_cons (me_var 0) (ma_cons (me_var 1) ma_nil)) Z.bl_gcd))
 (mss_cons (ms_if (mt_cmp od_lt (me_var 1) me_int)
 (mss_one (ms_set 2 (me_un ud_neg (me_var 2))))
 mss_nil)
 (mss_one (ms_ret (me_tup (ma_cons (me_bin od_div (me_var 0) (me_var 2)) (ma_cons (me_bin od_div (me_var 1) (me_var 2)) ma_nil))))))))
theorem sc_is_integer : FnScope N_is_integer ["thing"] (defScope s_is_integer) := ⟨rfl, rfl, rfl, by decide +kernel, rfl, by decide +kernel, by decide +kernel⟩
theorem ok_is_integer (Z : Ft P w K mg base) : OkD P w K mg base 1 "is_integer" s_is_integer ["thing"] rf_is_integer := okd Z.g_is_integer Z.f_is_integer sc_is_integer (fun _ _ _ _ _ _ us hl => match us, hl with | [_], _ => rfl) (fun cdv A outer s H E hr =>
 (mss_one (ms_ret (me_and (me_isi (T := "int") (me_var 0) Z.fr_isinstance Z.fr_int) (me_one (me_not (me_isi (T := "bool") (me_var 0) Z.fr_isinstance Z.fr_bool)))))))
theorem sc_is_quotient : FnScope N_is_quotient ["thing"] (defScope s_is_quotient) := ⟨rfl, rfl, rfl, by decide +kernel, rfl, by decide +kernel, by decide +kernel⟩
theorem ok_is_quotient (Z : Ft P w K mg base) : OkD P w K mg base 2 "is_quotient" s_is_quotient ["thing"] rf_is_quotient := okd Z.g_is_quotient Z.f_is_quotient sc_is_quotient (fun _ _ _ _ _ _ us hl => match us, hl with | [_], _ => rfl) (fun cdv A outer s H E hr =>
 (mss_cons (ms_if (mw_pt (mw_or (mt_not (mt_val (me_isi (T := "tuple") (me_var 0) Z.fr_isinstance Z.fr_tuple))) (mw_or1 (mt_cmp (od_ne (Room.u64 hr)) (me_callB cd_len (ma_cons (me_var 0) ma_nil) Z.fr_len) me_int))))
 (mss_one (ms_ret me_bl))
 mss_nil)
 (mss_cons (ms_bind (me_var 0) (mg_tup (mgs_cons (mg_name 1) (mgs_cons (mg_name 2) mgs_nil))))
 (mss_cons (ms_if (mw_pt (mw_or (mt_not (mt_val (me_fn (ok_is_integer Z) (hr.mono (by decide)) (ma_cons (me_var 1) ma_nil)))) (mw_or1 (mt_not (mt_val (me_fn (ok_is_integer Z) (hr.mono (by decide)) (ma_cons (me_var 2) ma_nil)))))))
 (mss_one (ms_ret me_bl))
 mss_nil)
 (mss_one (ms_ret (me_and (me_cmp od_ge (me_var 2) me_int) (me_one (me_cmp (od_eq (Room.u64 hr)) (me_callBf cd_gcd (ma_cons (me_var 1) (ma_cons (me_var 2) ma_nil)) Z.bl_gcd) me_int)))))))))
theorem sc__is_row : FnScope N__is_row ["row"] (defScope s__is_row) := ⟨rfl, rfl, rfl, by decide +kernel, rfl, by decide +kernel, by decide +kernel⟩
theorem ok__is_row (Z : Ft P w K mg base) : OkD P w K mg base 3 "_is_row" s__is_row ["row"] rf__is_row := okd Z.g__is_row Z.f__is_row sc__is_row (fun _ _ _ _ _ _ us hl => match us, hl with | [_], _ => rfl) (fun cdv A outer s H E hr =>
 (mss_one (ms_ret (me_and (me_isi (T := "tuple") (me_var 0) Z.fr_isinstance Z.fr_tuple) (me_one (me_callB (cd_all rfl) (ma_cons (me_lc (own := [("thing", 1)]) (mi_seq (me_var 0)) (blkOk_by (N := N__is_row) (sc := defScope s__is_row) (by decide +kernel)) (fun _ _ _ _ _ => (mg_name 1)) (fun _ _ _ _ _ => mts_nil) (fun _ _ _ _ _ => (me_fn (ok_is_quotient Z) (hr.mono (by decide)) (ma_cons (me_var 1) ma_nil))) (by decide)) ma_nil) Z.fr_all))))))
theorem sc_total : FnScope N_total ["row"] (defScope s_total) := ⟨rfl, rfl, rfl, by decide +kernel, rfl, by decide +kernel, by decide +kernel⟩
theorem ok_total (Z : Ft P w K mg base) : OkD P w K mg base 4 "total" s_total ["row"] rf_total := okd Z.g_total Z.f_total sc_total (fun _ _ _ _ _ _ us hl => match us, hl with | [_], _ => rfl) (fun cdv A outer s H E hr =>
 (mss_cons (ms_if (mt_not (mt_val (me_fn (ok__is_row Z) (hr.mono (by decide)) (ma_cons (me_var 0) ma_nil))))
 (mss_one (ms_err Z.e_NotUsable (hr.mono (by decide)) (ma_cons me_str (ma_cons (me_un ud_neg me_int) ma_nil))))
 mss_nil)
 (mss_cons (ms_set 1 me_int)
 (mss_cons (ms_for (mi_seq (me_var 0)) (mg_name 2)
 (mss_one (ms_set 1 (me_callBf cd_lcm (ma_cons (me_var 1) (ma_cons (me_ix ixd (me_var 2) me_int) ma_nil)) Z.bl_lcm))))
 (mss_cons (ms_set 3 (me_callB (cd_sum rfl) (ma_cons (me_lc (own := [("quotient", 2)]) (mi_seq (me_var 0)) (blkOk_by (N := N_total) (sc := defScope s_total) (by decide +kernel)) (fun _ _ _ _ _ => (mg_name 2)) (fun _ _ _ _ _ => mts_nil) (fun _ _ _ _ _ => (me_bin od_mul (me_ix ixd (me_var 2) me_int) (me_bin od_div (me_var 1) (me_ix ixd (me_var 2) me_int)))) (by decide)) ma_nil) Z.fr_sum))
 (mss_one (ms_ret (me_fn (ok_settle Z) (hr.mono (by decide)) (ma_cons (me_var 3) (ma_cons (me_var 1) ma_nil))))))))))
theorem sc_weighed : FnScope N_weighed ["row", "others"] (defScope s_weighed) := ⟨rfl, rfl, rfl, by decide +kernel, rfl, by decide +kernel, by decide +kernel⟩
theorem ok_weighed (Z : Ft P w K mg base) : OkD P w K mg base 4 "weighed" s_weighed ["row", "others"] rf_weighed := okd Z.g_weighed Z.f_weighed sc_weighed (fun _ _ _ _ _ _ us hl => match us, hl with | [_, _], _ => rfl) (fun cdv A outer s H E hr =>
 (mss_cons (ms_if (mt_not (mt_val (me_fn (ok__is_row Z) (hr.mono (by decide)) (ma_cons (me_var 0) ma_nil))))
 (mss_one (ms_err Z.e_NotUsable (hr.mono (by decide)) (ma_cons me_str (ma_cons (me_un ud_neg me_int) ma_nil))))
 mss_nil)
 (mss_cons (ms_if (mw_pt (mw_or (mt_not (mt_val (me_fn (ok__is_row Z) (hr.mono (by decide)) (ma_cons (me_var 1) ma_nil)))) (mw_or1 (mt_cmp (od_ne (Room.u64 hr)) (me_callB cd_len (ma_cons (me_var 1) ma_nil) Z.fr_len) (me_callB cd_len (ma_cons (me_var 0) ma_nil) Z.fr_len)))))
 (mss_one (ms_err Z.e_NotUsable (hr.mono (by decide)) (ma_cons me_str (ma_cons (me_un ud_neg me_int) ma_nil))))
 mss_nil)
 (mss_cons (ms_set 2 me_int)
 (mss_cons (ms_for (mi_zip (ma_cons (me_var 0) (ma_cons (me_var 1) ma_nil)) Z.fr_zip) (mg_tup (mgs_cons (mg_name 3) (mgs_cons (mg_name 4) mgs_nil)))
 (mss_one (ms_set 2 (me_callBf cd_lcm (ma_cons (me_var 2) (ma_cons (me_bin od_mul (me_ix ixd (me_var 3) me_int) (me_ix ixd (me_var 4) me_int)) ma_nil)) Z.bl_lcm))))
 (mss_cons (ms_set 5 me_int)
 (mss_cons (ms_for (mi_zip (ma_cons (me_var 0) (ma_cons (me_var 1) ma_nil)) Z.fr_zip) (mg_tup (mgs_cons (mg_name 3) (mgs_cons (mg_name 4) mgs_nil)))
 (mss_one (ms_aug 5 id_add (me_bin od_mul (me_bin od_mul (me_ix ixd (me_var 3) me_int) (me_ix ixd (me_var 4) me_int)) (me_bin od_div (me_var 2) (me_bin od_mul (me_ix ixd (me_var 3) me_int) (me_ix ixd (me_var 4) me_int)))))))
 (mss_one (ms_ret (me_fn (ok_settle Z) (hr.mono (by decide)) (ma_cons (me_var 5) (ma_cons (me_var 2) ma_nil))))))))))))
theorem sc__need_some : FnScope N__need_some ["row"] (defScope s__need_some) := ⟨rfl, rfl, rfl, by decide +kernel, rfl, by decide +kernel, by decide +kernel⟩
theorem ok__need_some (Z : Ft P w K mg base) : OkD P w K mg base 4 "_need_some" s__need_some ["row"] rf__need_some := okd Z.g__need_some Z.f__need_some sc__need_some (fun _ _ _ _ _ _ us hl => match us, hl with | [_], _ => rfl) (fun cdv A outer s H E hr =>
 (mss_one (ms_if (mw_pt (mw_or (mt_not (mt_val (me_fn (ok__is_row Z) (hr.mono (by decide)) (ma_cons (me_var 0) ma_nil)))) (mw_or1 (mt_cmp (od_eq (Room.u64 hr)) (me_callB cd_len (ma_cons (me_var 0) ma_nil) Z.fr_len) me_int))))
 (mss_one (ms_err Z.e_NotUsable (hr.mono (by decide)) (ma_cons me_str (ma_cons (me_un ud_neg me_int) ma_nil))))
 mss_nil)))
theorem sc_least_of : FnScope N_least_of ["row"] (defScope s_least_of) := ⟨rfl, rfl, rfl, by decide +kernel, rfl, by decide +kernel, by decide +kernel⟩
theorem ok_least_of (Z : Ft P w K mg base) : OkD P w K mg base 5 "least_of" s_least_of ["row"] rf_least_of := okd Z.g_least_of Z.f_least_of sc_least_of (fun _ _ _ _ _ _ us hl => match us, hl with | [_], _ => rfl) (fun cdv A outer s H E hr =>
 (mss_cons (ms_expr (me_fn (ok__need_some Z) (hr.mono (by decide)) (ma_cons (me_var 0) ma_nil)))
 (mss_cons (ms_set 1 (me_ix ixd (me_var 0) me_int))
 (mss_cons (ms_for (mi_seq (me_var 0)) (mg_name 2)
 (mss_one (ms_if (mt_cmp od_lt (me_bin od_mul (me_ix ixd (me_var 2) me_int) (me_ix ixd (me_var 1) me_int)) (me_bin od_mul (me_ix ixd (me_var 1) me_int) (me_ix ixd (me_var 2) me_int)))
 (mss_one (ms_set 1 (me_var 2)))
 mss_nil)))
 (mss_one (ms_ret (me_var 1)))))))
theorem sc_greatest_of : FnScope N_greatest_of ["row"] (defScope s_greatest_of) := ⟨rfl, rfl, rfl, by decide +kernel, rfl, by decide +kernel, by decide +kernel⟩
theorem ok_greatest_of (Z : Ft P w K mg base) : OkD P w K mg base 5 "greatest_of" s_greatest_of ["row"] rf_greatest_of := okd Z.g_greatest_of Z.f_greatest_of sc_greatest_of (fun _ _ _ _ _ _ us hl => match us, hl with | [_], _ => rfl) (fun cdv A outer s H E hr =>
 (mss_cons (ms_expr (me_fn (ok__need_some Z) (hr.mono (by decide)) (ma_cons (me_var 0) ma_nil)))
 (mss_cons (ms_set 1 (me_ix ixd (me_var 0) me_int))
 (mss_cons (ms_for (mi_seq (me_var 0)) (mg_name 2)
 (mss_one (ms_if (mt_cmp od_gt (me_bin od_mul (me_ix ixd (me_var 2) me_int) (me_ix ixd (me_var 1) me_int)) (me_bin od_mul (me_ix ixd (me_var 1) me_int) (me_ix ixd (me_var 2) me_int)))
 (mss_one (ms_set 1 (me_var 2)))
 mss_nil)))
 (mss_one (ms_ret (me_var 1)))))))
theorem sc__need_two : FnScope N__need_two ["one", "other"] (defScope s__need_two) := ⟨rfl, rfl, rfl, by decide +kernel, rfl, by decide +kernel, by decide +kernel⟩
theorem ok__need_two (Z : Ft P w K mg base) : OkD P w K mg base 3 "_need_two" s__need_two ["one", "other"] rf__need_two := okd Z.g__need_two Z.f__need_two sc__need_two (fun _ _ _ _ _ _ us hl => match us, hl with | [_, _], _ => rfl) (fun cdv A outer s H E hr =>
 (mss_cons (ms_if (mt_not (mt_val (me_fn (ok_is_quotient Z) (hr.mono (by decide)) (ma_cons (me_var 0) ma_nil))))
 (mss_one (ms_err Z.e_NotUsable (hr.mono (by decide)) (ma_cons me_str (ma_cons (me_un ud_neg me_int) ma_nil))))
 mss_nil)
 (mss_one (ms_if (mt_not (mt_val (me_fn (ok_is_quotient Z) (hr.mono (by decide)) (ma_cons (me_var 1) ma_nil))))
 (mss_one (ms_err Z.e_NotUsable (hr.mono (by decide)) (ma_cons me_str (ma_cons (me_un ud_neg me_int) ma_nil))))
 mss_nil))))
theorem sc_plus : FnScope N_plus ["one", "other"] (defScope s_plus) := ⟨rfl, rfl, rfl, by decide +kernel, rfl, by decide +kernel, by decide +kernel⟩
theorem ok_plus (Z : Ft P w K mg base) : OkD P w K mg base 4 "plus" s_plus ["one", "other"] rf_plus := okd Z.g_plus Z.f_plus sc_plus (fun _ _ _ _ _ _ us hl => match us, hl with | [_, _], _ => rfl) (fun cdv A outer s H E hr =>
 (mss_cons (ms_expr (me_fn (ok__need_two Z) (hr.mono (by decide)) (ma_cons (me_var 0) (ma_cons (me_var 1) ma_nil))))
 (mss_one (ms_ret (me_fn (ok_settle Z) (hr.mono (by decide)) (ma_cons (me_bin od_add (me_bin od_mul (me_ix ixd (me_var 0) me_int) (me_ix ixd (me_var 1) me_int)) (me_bin od_mul (me_ix ixd (me_var 1) me_int) (me_ix ixd (me_var 0) me_int))) (ma_cons (me_bin od_mul (me_ix ixd (me_var 0) me_int) (me_ix ixd (me_var 1) me_int)) ma_nil)))))))
theorem sc_times : FnScope N_times ["one", "other"] (defScope s_times) := ⟨rfl, rfl, rfl, by decide +kernel, rfl, by decide +kernel, by decide +kernel⟩
theorem ok_times (Z : Ft P w K mg base) : OkD P w K mg base 4 "times" s_times ["one", "other"] rf_times := okd Z.g_times Z.f_times sc_times (fun _ _ _ _ _ _ us hl => match us, hl with | [_, _], _ => rfl) (fun cdv A outer s H E hr =>
 (mss_cons (ms_expr (me_fn (ok__need_two Z) (hr.mono (by decide)) (ma_cons (me_var 0) (ma_cons (me_var 1) ma_nil))))
 (mss_one (ms_ret (me_fn (ok_settle Z) (hr.mono (by decide)) (ma_cons (me_bin od_mul (me_ix ixd (me_var 0) me_int) (me_ix ixd (me_var 1) me_int)) (ma_cons (me_bin od_mul (me_ix ixd (me_var 0) me_int) (me_ix ixd (me_var 1) me_int)) ma_nil)))))))
theorem sc_is_less : FnScope N_is_less ["one", "other"] (defScope s_is_less) := ⟨rfl, rfl, rfl, by decide +kernel, rfl, by decide +kernel, by decide +kernel⟩
theorem ok_is_less (Z : Ft P w K mg base) : OkD P w K mg base 4 "is_less" s_is_less ["one", "other"] rf_is_less := okd Z.g_is_less Z.f_is_less sc_is_less (fun _ _ _ _ _ _ us hl => match us, hl with | [_, _], _ => rfl) (fun cdv A outer s H E hr =>
 (mss_cons (ms_expr (me_fn (ok__need_two Z) (hr.mono (by decide)) (ma_cons (me_var 0) (ma_cons (me_var 1) ma_nil))))
 (mss_one (ms_ret (me_cmp od_lt (me_bin od_mul (me_ix ixd (me_var 0) me_int) (me_ix ixd (me_var 1) me_int)) (me_bin od_mul (me_ix ixd (me_var 1) me_int) (me_ix ixd (me_var 0) me_int)))))))
theorem sc__law_mixed : FnScope N__law_mixed ["_law_cell", "_law_tick"] (defScope s__law_mixed) := ⟨rfl, rfl, rfl, by decide +kernel, rfl, by decide +kernel, by decide +kernel⟩
theorem ok__law_mixed (Z : Ft P w K mg base) : OkD P w K mg base 1 "_law_mixed" s__law_mixed ["_law_cell", "_law_tick"] rf__law_mixed := okd Z.g__law_mixed Z.f__law_mixed sc__law_mixed (fun _ _ _ _ _ _ us hl => match us, hl with | [_, _], _ => rfl) (fun cdv A outer s H E hr =>
 (mss_cons (ms_set 2 (me_bin od_mod (me_callTy cd_int (ma_cons (me_bin od_add (me_bin od_add (me_bin od_mul (me_var 0) me_int) (me_bin od_mul (me_var 1) me_int)) me_int) ma_nil) Z.fr_int) me_int))
 (mss_cons (ms_set 3 (me_bin od_mod (me_callTy cd_int (ma_cons (me_bin od_add (me_bin od_add (me_bin od_mul (me_var 2) (me_var 2)) (me_bin od_mul (me_var 1) me_int)) me_int) ma_nil) Z.fr_int) me_int))
 (mss_cons (ms_set 4 (me_bin od_mod (me_callTy cd_int (ma_cons (me_bin od_add (me_bin od_add (me_bin od_div (me_bin od_mul (me_var 3) (me_var 3)) me_int) (me_bin od_mul (me_var 3) me_int)) (me_var 1)) ma_nil) Z.fr_int) me_int))
 (mss_one (ms_ret (me_bin od_div (me_var 4) me_int)))))))
theorem sc__law_pool : FnScope N__law_pool ["_law_script"] (defScope s__law_pool) := ⟨rfl, rfl, rfl, by decide +kernel, rfl, by decide +kernel, by decide +kernel⟩
theorem ok__law_pool (Z : Ft P w K mg base) : OkD P w K mg base 1 "_law_pool" s__law_pool ["_law_script"] rf__law_pool := okd Z.g__law_pool Z.f__law_pool sc__law_pool (fun _ _ _ _ _ _ us hl => match us, hl with | [_], _ => rfl) (fun cdv A outer s H E hr =>
 (mss_cons (ms_set 1 me_int)
 (mss_cons (ms_for (mi_seq (me_var 0)) (mg_name 2)
 (mss_one (ms_set 1 (me_bin od_mod (me_callTy cd_int (ma_cons (me_bin od_add (me_bin od_add (me_bin od_mul (me_var 1) me_int) (me_bin od_mul (me_var 2) me_int)) me_int) ma_nil) Z.fr_int) me_int))))
 (mss_one (ms_ret (me_lst (ma_cons (me_callTy cd_list (ma_cons (me_var 0) ma_nil) Z.fr_list) (ma_cons me_int (ma_cons me_int (ma_cons (me_var 1) (ma_cons (me_callB cd_len (ma_cons (me_var 0) ma_nil) Z.fr_len) ma_nil)))))))))))
theorem sc__law_take : FnScope N__law_take ["_law_pool_here", "_law_size"] (defScope s__law_take) := ⟨rfl, rfl, rfl, by decide +kernel, rfl, by decide +kernel, by decide +kernel⟩
theorem ok__law_take (Z : Ft P w K mg base) : OkD P w K mg base 2 "_law_take" s__law_take ["_law_pool_here", "_law_size"] rf__law_take := okd Z.g__law_take Z.f__law_take sc__law_take (fun _ _ _ _ _ _ us hl => match us, hl with | [_, _], _ => rfl) (fun cdv A outer s H E hr =>
 (mss_cons (ms_if (mt_cmp (od_eq (Room.u64 hr)) (me_ix ixd (me_var 0) me_int) me_int)
 (mss_one (ms_ret me_int))
 mss_nil)
 (mss_cons (ms_if (mw_pt (mw_and (mt_cmp (od_eq (Room.u64 hr)) (me_ix ixd (me_var 0) me_int) me_int) (mw_and1 (mt_cmp od_gt (me_callB cd_len (ma_cons (me_ix ixd (me_var 0) me_int) ma_nil) Z.fr_len) me_int))))
 (mss_cons (ms_set 2 (me_callB cd_abs (ma_cons (me_bm F.slot_list_pop rfl md_popAt (me_ix ixd (me_var 0) me_int) (ma_cons me_int ma_nil)) ma_nil) Z.fr_abs))
 (mss_cons (ms_if (mt_cmp od_lt (me_var 2) (me_bin od_pow me_int me_int))
 (mss_cons (ms_sub sd_list (me_bin od_add (me_ix ixd (me_var 0) me_int) me_int) (me_var 0) me_int)
 (mss_one (ms_ret (me_bin od_mod (me_callTy cd_int (ma_cons (me_fn (ok__law_mixed Z) (hr.mono (by decide)) (ma_cons (me_var 2) (ma_cons (me_ix ixd (me_var 0) me_int) ma_nil))) ma_nil) Z.fr_int) (me_var 1)))))
 mss_nil)
 (mss_one (ms_sub sd_list (me_bin od_mod (me_callTy cd_int (ma_cons (me_var 2) ma_nil) Z.fr_int) (me_bin od_mul (me_bin od_mul (me_bin od_pow me_int me_int) (me_bin od_pow me_int me_int)) (me_bin od_pow me_int me_int))) (me_var 0) me_int))))
 mss_nil)
 (mss_cons (ms_if (mt_cmp od_gt (me_ix ixd (me_var 0) me_int) me_int)
 (mss_cons (ms_set 3 (me_bin od_mod (me_callTy cd_int (ma_cons (me_ix ixd (me_var 0) me_int) ma_nil) Z.fr_int) (me_var 1)))
 (mss_cons (ms_sub sd_list (me_bin od_div (me_ix ixd (me_var 0) me_int) (me_var 1)) (me_var 0) me_int)
 (mss_one (ms_ret (me_var 3)))))
 mss_nil)
 (mss_cons (ms_sub sd_list (me_bin od_add (me_ix ixd (me_var 0) me_int) me_int) (me_var 0) me_int)
 (mss_one (ms_ret (me_bin od_mod (me_callTy cd_int (ma_cons (me_fn (ok__law_mixed Z) (hr.mono (by decide)) (ma_cons (me_ix ixd (me_var 0) me_int) (ma_cons (me_ix ixd (me_var 0) me_int) ma_nil))) ma_nil) Z.fr_int) (me_var 1)))))))))
theorem sc__law_whole : FnScope N__law_whole ["_law_value"] (defScope s__law_whole) := ⟨rfl, rfl, rfl, by decide +kernel, rfl, by decide +kernel, by decide +kernel⟩
theorem ok__law_whole (Z : Ft P w K mg base) : OkD P w K mg base 1 "_law_whole" s__law_whole ["_law_value"] rf__law_whole := okd Z.g__law_whole Z.f__law_whole sc__law_whole (fun _ _ _ _ _ _ us hl => match us, hl with | [_], _ => rfl) (fun cdv A outer s H E hr =>
 (mss_one (ms_ret (me_and (me_isi (T := "int") (me_var 0) Z.fr_isinstance Z.fr_int) (me_one (me_not (me_isi (T := "bool") (me_var 0) Z.fr_isinstance Z.fr_bool)))))))
theorem okc__law_whole (Z : Ft P w K mg base) : OkC P w K mg base 1 "_law_whole" s__law_whole ["_law_value"] rf__law_whole := okc Z.g__law_whole Z.f__law_whole sc__law_whole (fun _ _ _ _ _ _ us hl => match us, hl with | [_], _ => rfl) (fun xc cdv A outer s H hr =>
 (mss_one (ms_ret (me_and (me_isi (T := "int") (me_var 0) Z.fr_isinstance Z.fr_int) (me_one (me_not (me_isi (T := "bool") (me_var 0) Z.fr_isinstance Z.fr_bool)))))))
theorem sc__law_common : FnScope N__law_common ["_law_high", "_law_low_here"] (defScope s__law_common) := ⟨rfl, rfl, rfl, by decide +kernel, rfl, by decide +kernel, by decide +kernel⟩
theorem ok__law_common (Z : Ft P w K mg base) : OkD P w K mg base 1 "_law_common" s__law_common ["_law_high", "_law_low_here"] rf__law_common := okd Z.g__law_common Z.f__law_common sc__law_common (fun _ _ _ _ _ _ us hl => match us, hl with | [_, _], _ => rfl) (fun cdv A outer s H E hr =>
 (mss_cons (ms_while (mt_cmp (od_ne (Room.u64 hr)) (me_var 1) me_int)
 (mss_one (ms_par 0 1 (me_var 1) (me_bin od_mod (me_callTy cd_int (ma_cons (me_var 0) ma_nil) Z.fr_int) (me_var 1)))))
 (mss_one (ms_ret (me_var 0)))))
theorem sc__law_low : FnScope N__law_low ["_law_top", "_law_bottom"] (defScope s__law_low) := ⟨rfl, rfl, rfl, by decide +kernel, rfl, by decide +kernel, by decide +kernel⟩
theorem ok__law_low (Z : Ft P w K mg base) : OkD P w K mg base 2 "_law_low" s__law_low ["_law_top", "_law_bottom"] rf__law_low := okd Z.g__law_low Z.f__law_low sc__law_low (fun _ _ _ _ _ _ us hl => match us, hl with | [_, _], _ => rfl) (fun cdv A outer s H E hr =>
 (mss_cons (ms_set 2 (me_fn (ok__law_common Z) (hr.mono (by decide)) (ma_cons (me_callB cd_abs (ma_cons (me_var 0) ma_nil) Z.fr_abs) (ma_cons (me_var 1) ma_nil))))
 (mss_one (ms_ret (me_tup (ma_cons (me_bin od_div (me_var 0) (me_var 2)) (ma_cons (me_bin od_div (me_var 1) (me_var 2)) ma_nil)))))))
theorem sc__law_quotient : FnScope N__law_quotient ["_law_value"] (defScope s__law_quotient) := ⟨rfl, rfl, rfl, by decide +kernel, rfl, by decide +kernel, by decide +kernel⟩
theorem ok__law_quotient (Z : Ft P w K mg base) : OkD P w K mg base 2 "_law_quotient" s__law_quotient ["_law_value"] rf__law_quotient := okd Z.g__law_quotient Z.f__law_quotient sc__law_quotient (fun _ _ _ _ _ _ us hl => match us, hl with | [_], _ => rfl) (fun cdv A outer s H E hr =>
 (mss_cons (ms_if (mw_pt (mw_or (mt_not (mt_val (me_isi (T := "tuple") (me_var 0) Z.fr_isinstance Z.fr_tuple))) (mw_or1 (mt_cmp (od_ne (Room.u64 hr)) (me_callB cd_len (ma_cons (me_var 0) ma_nil) Z.fr_len) me_int))))
 (mss_one (ms_ret me_bl))
 mss_nil)
 (mss_cons (ms_if (mw_pt (mw_or (mt_not (mt_val (me_fn (ok__law_whole Z) (hr.mono (by decide)) (ma_cons (me_ix ixd (me_var 0) me_int) ma_nil)))) (mw_or (mt_not (mt_val (me_fn (ok__law_whole Z) (hr.mono (by decide)) (ma_cons (me_ix ixd (me_var 0) me_int) ma_nil)))) (mw_or1 (mt_cmp od_lt (me_ix ixd (me_var 0) me_int) me_int)))))
 (mss_one (ms_ret me_bl))
 mss_nil)
 (mss_one (ms_ret (me_cmp (od_eq (Room.u64 hr)) (me_fn (ok__law_common Z) (hr.mono (by decide)) (ma_cons (me_callB cd_abs (ma_cons (me_ix ixd (me_var 0) me_int) ma_nil) Z.fr_abs) (ma_cons (me_ix ixd (me_var 0) me_int) ma_nil))) me_int))))))
theorem sc__law_stands : FnScope N__law_stands ["_law_told", "_law_top", "_law_bottom"] (defScope s__law_stands) := ⟨rfl, rfl, rfl, by decide +kernel, rfl, by decide +kernel, by decide +kernel⟩
theorem ok__law_stands (Z : Ft P w K mg base) : OkD P w K mg base 3 "_law_stands" s__law_stands ["_law_told", "_law_top", "_law_bottom"] rf__law_stands := okd Z.g__law_stands Z.f__law_stands sc__law_stands (fun _ _ _ _ _ _ us hl => match us, hl with | [_, _, _], _ => rfl) (fun cdv A outer s H E hr =>
 (mss_one (ms_ret (me_and (me_fn (ok__law_quotient Z) (hr.mono (by decide)) (ma_cons (me_var 0) ma_nil)) (me_one (me_cmp (od_eq (Room.u64 hr)) (me_bin od_mul (me_ix ixd (me_var 0) me_int) (me_var 2)) (me_bin od_mul (me_ix ixd (me_var 0) me_int) (me_var 1))))))))
theorem sc__law_draw : FnScope N__law_draw ["_law_pool_here", "_law_style"] (defScope s__law_draw) := ⟨rfl, rfl, rfl, by decide +kernel, rfl, by decide +kernel, by decide +kernel⟩
theorem ok__law_draw (Z : Ft P w K mg base) : OkD P w K mg base 3 "_law_draw" s__law_draw ["_law_pool_here", "_law_style"] rf__law_draw := okd Z.g__law_draw Z.f__law_draw sc__law_draw (fun _ _ _ _ _ _ us hl => match us, hl with | [_, _], _ => rfl) (fun cdv A outer s H E hr =>
 (mss_cons (ms_if (mt_cmp (od_eq (Room.u64 hr)) (me_var 1) me_int)
 (mss_cons (ms_set 2 (me_lst (ma_cons (me_bin od_pow me_int me_int) (ma_cons (me_bin od_add (me_bin od_pow me_int me_int) me_int) (ma_cons (me_bin od_pow me_int me_int) (ma_cons me_int ma_nil))))))
 (mss_cons (ms_set 3 (me_bin od_add (me_ix ixd (me_var 2) (me_fn (ok__law_take Z) (hr.mono (by decide)) (ma_cons (me_var 0) (ma_cons me_int ma_nil)))) (me_fn (ok__law_take Z) (hr.mono (by decide)) (ma_cons (me_var 0) (ma_cons me_int ma_nil)))))
 (mss_cons (ms_set 4 (me_bin od_add (me_ix ixd (me_lst (ma_cons (me_bin od_pow me_int me_int) (ma_cons (me_bin od_add (me_bin od_pow me_int me_int) me_int) (ma_cons (me_bin od_pow me_int me_int) (ma_cons me_int ma_nil))))) (me_fn (ok__law_take Z) (hr.mono (by decide)) (ma_cons (me_var 0) (ma_cons me_int ma_nil)))) (me_fn (ok__law_take Z) (hr.mono (by decide)) (ma_cons (me_var 0) (ma_cons me_int ma_nil)))))
 (mss_one (ms_ret (me_fn (ok__law_low Z) (hr.mono (by decide)) (ma_cons (me_bin od_sub (me_var 3) (me_bin od_mul (me_bin od_mul me_int (me_var 3)) (me_fn (ok__law_take Z) (hr.mono (by decide)) (ma_cons (me_var 0) (ma_cons me_int ma_nil))))) (ma_cons (me_var 4) ma_nil))))))))
 mss_nil)
 (mss_cons (ms_if (mt_cmp (od_eq (Room.u64 hr)) (me_var 1) me_int)
 (mss_cons (ms_set 5 (me_bin od_mul (me_bin od_mul (me_bin od_mul (me_bin od_mul (me_bin od_pow me_int me_int) (me_bin od_pow me_int me_int)) (me_bin od_pow me_int me_int)) (me_bin od_pow me_int me_int)) (me_bin od_pow me_int me_int)))
 (mss_one (ms_ret (me_fn (ok__law_low Z) (hr.mono (by decide)) (ma_cons (me_bin od_sub (me_fn (ok__law_take Z) (hr.mono (by decide)) (ma_cons (me_var 0) (ma_cons me_int ma_nil))) (me_var 5)) (ma_cons (me_bin od_sub (me_bin od_mul me_int (me_var 5)) (me_fn (ok__law_take Z) (hr.mono (by decide)) (ma_cons (me_var 0) (ma_cons me_int ma_nil)))) ma_nil))))))
 mss_nil)
 (mss_cons (ms_if (mt_cmp (od_eq (Room.u64 hr)) (me_fn (ok__law_take Z) (hr.mono (by decide)) (ma_cons (me_var 0) (ma_cons me_int ma_nil))) me_int)
 (mss_one (ms_ret (me_ix ixd (me_lst (ma_cons (me_tup (ma_cons me_int (ma_cons me_int ma_nil))) (ma_cons (me_tup (ma_cons me_int (ma_cons me_int ma_nil))) (ma_cons (me_tup (ma_cons (me_un ud_neg me_int) (ma_cons me_int ma_nil))) (ma_cons (me_tup (ma_cons me_int (ma_cons me_int ma_nil))) (ma_cons (me_tup (ma_cons (me_un ud_neg me_int) (ma_cons me_int ma_nil))) (ma_cons (me_tup (ma_cons me_int (ma_cons me_int ma_nil))) (ma_cons (me_tup (ma_cons me_int (ma_cons me_int ma_nil))) ma_nil)))))))) (me_fn (ok__law_take Z) (hr.mono (by decide)) (ma_cons (me_var 0) (ma_cons me_int ma_nil))))))
 mss_nil)
 (mss_one (ms_ret (me_fn (ok__law_low Z) (hr.mono (by decide)) (ma_cons (me_bin od_sub (me_fn (ok__law_take Z) (hr.mono (by decide)) (ma_cons (me_var 0) (ma_cons me_int ma_nil))) me_int) (ma_cons (me_bin od_add me_int (me_fn (ok__law_take Z) (hr.mono (by decide)) (ma_cons (me_var 0) (ma_cons me_int ma_nil)))) ma_nil)))))))))
theorem sc__law_rows : FnScope N__law_rows ["_law_pool_here"] (defScope s__law_rows) := ⟨rfl, rfl, rfl, by decide +kernel, rfl, by decide +kernel, by decide +kernel⟩
theorem ok__law_rows (Z : Ft P w K mg base) : OkD P w K mg base 4 "_law_rows" s__law_rows ["_law_pool_here"] rf__law_rows := okd Z.g__law_rows Z.f__law_rows sc__law_rows (fun _ _ _ _ _ _ us hl => match us, hl with | [_], _ => rfl) (fun cdv A outer s H E hr =>
 (mss_cons (ms_set 1 (me_fn (ok__law_take Z) (hr.mono (by decide)) (ma_cons (me_var 0) (ma_cons me_int ma_nil))))
 (mss_cons (ms_set 2 me_int)
 (mss_cons (ms_set 3 (me_fn (ok__law_take Z) (hr.mono (by decide)) (ma_cons (me_var 0) (ma_cons me_int ma_nil))))
 (mss_cons (ms_if (mt_cmp od_gt (me_var 1) me_int)
 (mss_one (ms_set 3 me_int))
 (mss_one (ms_if (mt_cmp od_gt (me_var 1) me_int)
 (mss_cons (ms_set 2 me_int)
 (mss_one (ms_set 3 (me_bin od_add (me_var 3) me_int))))
 (mss_one (ms_if (mt_cmp (od_eq (Room.u64 hr)) (me_var 1) me_int)
 (mss_cons (ms_set 2 me_int)
 (mss_one (ms_set 3 me_int)))
 mss_nil)))))
 (mss_cons (ms_setLc 4 (own := [("_law_k", 5)]) (mi_range1 (ma_cons (me_var 3) ma_nil) Z.fr_range) (blkOk_by (N := N__law_rows) (sc := defScope s__law_rows) (by decide +kernel)) (fun _ _ _ _ _ => (mg_name 5)) (fun _ _ _ _ _ => mts_nil) (fun _ _ _ _ _ => (me_fn (ok__law_draw Z) (hr.mono (by decide)) (ma_cons (me_var 0) (ma_cons (me_var 2) ma_nil)))) (by decide))
 (mss_cons (ms_setLc 6 (own := [("_law_k", 5)]) (mi_range1 (ma_cons (me_var 3) ma_nil) Z.fr_range) (blkOk_by (N := N__law_rows) (sc := defScope s__law_rows) (by decide +kernel)) (fun _ _ _ _ _ => (mg_name 5)) (fun _ _ _ _ _ => mts_nil) (fun _ _ _ _ _ => (me_fn (ok__law_draw Z) (hr.mono (by decide)) (ma_cons (me_var 0) (ma_cons (me_var 2) ma_nil)))) (by decide))
 (mss_cons (ms_if (mw_pt (mw_and (mt_cmp od_gt (me_var 3) me_int) (mw_and1 (mt_cmp (od_eq (Room.u64 hr)) (me_fn (ok__law_take Z) (hr.mono (by decide)) (ma_cons (me_var 0) (ma_cons me_int ma_nil))) me_int))))
 (mss_one (ms_sub sd_list (me_ix ixd (me_var 4) (me_fn (ok__law_take Z) (hr.mono (by decide)) (ma_cons (me_var 0) (ma_cons (me_var 3) ma_nil)))) (me_var 4) (me_fn (ok__law_take Z) (hr.mono (by decide)) (ma_cons (me_var 0) (ma_cons (me_var 3) ma_nil)))))
 mss_nil)
 (mss_one (ms_ret (me_lst (ma_cons (me_var 4) (ma_cons (me_var 6) (ma_cons (me_var 2) ma_nil))))))))))))))
theorem sc__law_bad : FnScope N__law_bad ["_law_pool_here"] (defScope s__law_bad) := ⟨rfl, rfl, rfl, by decide +kernel, rfl, by decide +kernel, by decide +kernel⟩
theorem ok__law_bad (Z : Ft P w K mg base) : OkD P w K mg base 3 "_law_bad" s__law_bad ["_law_pool_here"] rf__law_bad := okd Z.g__law_bad Z.f__law_bad sc__law_bad (fun _ _ _ _ _ _ us hl => match us, hl with | [_], _ => rfl) (fun cdv A outer s H E hr =>
 (mss_cons (ms_set 1 (me_lst (ma_cons (me_tup (ma_cons me_int (ma_cons me_int ma_nil))) (ma_cons (me_tup (ma_cons me_bl (ma_cons me_int ma_nil))) (ma_cons (me_tup (ma_cons me_int (ma_cons me_bl ma_nil))) (ma_cons (me_tup (ma_cons me_int (ma_cons me_int ma_nil))) (ma_cons (me_tup (ma_cons me_int (ma_cons (me_un ud_neg me_int) ma_nil))) (ma_cons (me_tup (ma_cons me_int (ma_cons me_int ma_nil))) (ma_cons (me_lst (ma_cons me_int (ma_cons me_int ma_nil))) (ma_cons (me_tup (ma_cons me_int ma_nil)) (ma_cons (me_tup (ma_cons me_int (ma_cons me_int (ma_cons me_int ma_nil)))) (ma_cons me_int (ma_cons me_non (ma_cons me_str (ma_cons (me_tup ma_nil) (ma_cons (me_tup (ma_cons me_str (ma_cons me_int ma_nil))) ma_nil))))))))))))))))
 (mss_one (ms_ret (me_ix ixd (me_var 1) (me_fn (ok__law_take Z) (hr.mono (by decide)) (ma_cons (me_var 0) (ma_cons me_int ma_nil))))))))
theorem sc__law_ask : FnScope N__law_ask ["_law_deed", "_law_left", "_law_right", "_law_named"] (defScope s__law_ask) := ⟨rfl, rfl, rfl, by decide +kernel, rfl, by decide +kernel, by decide +kernel⟩
theorem ok__law_ask (Z : Ft P w K mg base) : OkD P w K mg base 6 "_law_ask" s__law_ask ["_law_deed", "_law_left", "_law_right", "_law_named"] rf__law_ask := okd Z.g__law_ask Z.f__law_ask sc__law_ask (fun _ _ _ _ _ _ us hl => match us, hl with | [_, _, _, _], _ => rfl) (fun cdv A outer s H E hr =>
 (mss_one (ms_tryAs 4 rfl (dec1_ok Z.x_NotUsable Z.e_NotUsable.gm) ⟨by rfl, by decide, .inl Z.e_NotUsable.gm⟩ (fun W pn xe tk ow => (mss_cons (ms_if (mt_cmp (od_eq (Room.u64 hr)) (me_var 0) me_int)
 (mss_one (ms_ret (me_tup (ma_cons me_str (ma_cons (me_if (mt_val (me_var 3)) (me_fnK0 (ks := ["row"]) (pm := @pm01) (ok_total Z) (hr.mono (by decide)) perm_01 (fun _ _ _ _ _ _ us ws h1 h2 => match us, ws, h1, h2 with | [], [_], _, _ => rfl) (mk_cons (me_var 1) mk_nil)) (me_fn (ok_total Z) (hr.mono (by decide)) (ma_cons (me_var 1) ma_nil))) ma_nil)))))
 mss_nil)
 (mss_cons (ms_if (mt_cmp (od_eq (Room.u64 hr)) (me_var 0) me_int)
 (mss_one (ms_ret (me_tup (ma_cons me_str (ma_cons (me_if (mt_val (me_var 3)) (me_fnK0 (ks := ["others", "row"]) (pm := @pm10) (ok_weighed Z) (hr.mono (by decide)) perm_10 (fun _ _ _ _ _ _ us ws h1 h2 => match us, ws, h1, h2 with | [], [_, _], _, _ => rfl) (mk_cons (me_var 2) (mk_cons (me_var 1) mk_nil))) (me_fn (ok_weighed Z) (hr.mono (by decide)) (ma_cons (me_var 1) (ma_cons (me_var 2) ma_nil)))) ma_nil)))))
 mss_nil)
 (mss_cons (ms_if (mt_cmp (od_eq (Room.u64 hr)) (me_var 0) me_int)
 (mss_one (ms_ret (me_tup (ma_cons me_str (ma_cons (me_if (mt_val (me_var 3)) (me_fnK0 (ks := ["row"]) (pm := @pm01) (ok_least_of Z) (hr.mono (by decide)) perm_01 (fun _ _ _ _ _ _ us ws h1 h2 => match us, ws, h1, h2 with | [], [_], _, _ => rfl) (mk_cons (me_var 1) mk_nil)) (me_fn (ok_least_of Z) (hr.mono (by decide)) (ma_cons (me_var 1) ma_nil))) ma_nil)))))
 mss_nil)
 (mss_one (ms_ret (me_tup (ma_cons me_str (ma_cons (me_if (mt_val (me_var 3)) (me_fnK0 (ks := ["row"]) (pm := @pm01) (ok_greatest_of Z) (hr.mono (by decide)) perm_01 (fun _ _ _ _ _ _ us ws h1 h2 => match us, ws, h1, h2 with | [], [_], _, _ => rfl) (mk_cons (me_var 1) mk_nil)) (me_fn (ok_greatest_of Z) (hr.mono (by decide)) (ma_cons (me_var 1) ma_nil))) ma_nil))))))))) (fun ad oe cls dx pn hz hf => (mss_cons (ms_if (mw_pt (mw_or (mt_cmp (od_ne (RoomC.u64 (Room.hot hr _))) (me_xf (n := "NotUsable") (f := "at") (ad := ad) (oe := oe) (cls := cls) (dx := dx) (pn := pn) (c := ⟨K, mg, none⟩) (Y := cxOf (L2.CX P w) P w K mg base N__law_ask "_law_ask" (defScope s__law_ask) (He.ga K "_law_ask") cdv A outer s H E) Z.e_NotUsable.er.xf Z.e_NotUsable.gm (Z.e_NotUsable.er.no _ (by simp)) hz hf (me_var 4)) (me_un ud_neg me_int)) (mw_or (mt_not (mt_val (me_fnC (okc__law_whole Z) ((Room.hot hr _).mono (by decide)) (ma_cons (me_xf (n := "NotUsable") (f := "at") (ad := ad) (oe := oe) (cls := cls) (dx := dx) (pn := pn) (c := ⟨K, mg, none⟩) (Y := cxOf (L2.CX P w) P w K mg base N__law_ask "_law_ask" (defScope s__law_ask) (He.ga K "_law_ask") cdv A outer s H E) Z.e_NotUsable.er.xf Z.e_NotUsable.gm (Z.e_NotUsable.er.no _ (by simp)) hz hf (me_var 4)) ma_nil)))) (mw_or1 (mt_not (mt_val (me_isi (T := "str") (me_xf (n := "NotUsable") (f := "word") (ad := ad) (oe := oe) (cls := cls) (dx := dx) (pn := pn) (c := ⟨K, mg, none⟩) (Y := cxOf (L2.CX P w) P w K mg base N__law_ask "_law_ask" (defScope s__law_ask) (He.ga K "_law_ask") cdv A outer s H E) Z.e_NotUsable.er.xf Z.e_NotUsable.gm (Z.e_NotUsable.er.no _ (by simp)) hz hf (me_var 4)) Z.fr_isinstance Z.fr_str)))))))
 (mss_one (ms_ret (me_tup (ma_cons me_str (ma_cons me_str ma_nil)))))
 mss_nil)
 (mss_one (ms_ret (me_tup (ma_cons me_str (ma_cons (me_xf (n := "NotUsable") (f := "word") (ad := ad) (oe := oe) (cls := cls) (dx := dx) (pn := pn) (c := ⟨K, mg, none⟩) (Y := cxOf (L2.CX P w) P w K mg base N__law_ask "_law_ask" (defScope s__law_ask) (He.ga K "_law_ask") cdv A outer s H E) Z.e_NotUsable.er.xf Z.e_NotUsable.gm (Z.e_NotUsable.er.no _ (by simp)) hz hf (me_var 4)) ma_nil))))))))))
theorem sc__law_sum : FnScope N__law_sum ["_law_left", "_law_right", "_law_told"] (defScope s__law_sum) := ⟨rfl, rfl, rfl, by decide +kernel, rfl, by decide +kernel, by decide +kernel⟩
theorem ok__law_sum (Z : Ft P w K mg base) : OkD P w K mg base 4 "_law_sum" s__law_sum ["_law_left", "_law_right", "_law_told"] rf__law_sum := okd Z.g__law_sum Z.f__law_sum sc__law_sum (fun _ _ _ _ _ _ us hl => match us, hl with | [_, _, _], _ => rfl) (fun cdv A outer s H E hr =>
 (mss_cons (ms_set 3 me_int)
 (mss_cons (ms_set 4 me_int)
 (mss_cons (ms_for (mi_range1 (ma_cons (me_callB cd_len (ma_cons (me_var 0) ma_nil) Z.fr_len) ma_nil) Z.fr_range) (mg_name 5)
 (mss_cons (ms_set 6 (me_bin od_mul (me_ix ixd (me_ix ixd (me_var 0) (me_var 5)) me_int) (me_ix ixd (me_ix ixd (me_var 1) (me_var 5)) me_int)))
 (mss_cons (ms_set 7 (me_bin od_mul (me_ix ixd (me_ix ixd (me_var 0) (me_var 5)) me_int) (me_ix ixd (me_ix ixd (me_var 1) (me_var 5)) me_int)))
 (mss_cons (ms_set 3 (me_bin od_add (me_bin od_mul (me_var 3) (me_var 7)) (me_bin od_mul (me_var 6) (me_var 4))))
 (mss_one (ms_set 4 (me_bin od_mul (me_var 4) (me_var 7))))))))
 (mss_one (ms_ret (me_and (me_cmp (od_eq (Room.u64 hr)) (me_ix ixd (me_var 2) me_int) me_str) (me_one (me_fn (ok__law_stands Z) (hr.mono (by decide)) (ma_cons (me_ix ixd (me_var 2) me_int) (ma_cons (me_var 3) (ma_cons (me_var 4) ma_nil))))))))))))
theorem sc__law_end : FnScope N__law_end ["_law_row_held", "_law_told", "_law_sign"] (defScope s__law_end) := ⟨rfl, rfl, rfl, by decide +kernel, rfl, by decide +kernel, by decide +kernel⟩
theorem ok__law_end (Z : Ft P w K mg base) : OkD P w K mg base 3 "_law_end" s__law_end ["_law_row_held", "_law_told", "_law_sign"] rf__law_end := okd Z.g__law_end Z.f__law_end sc__law_end (fun _ _ _ _ _ _ us hl => match us, hl with | [_, _, _], _ => rfl) (fun cdv A outer s H E hr =>
 (mss_cons (ms_if (mw_pt (mw_or (mt_cmp (od_ne (Room.u64 hr)) (me_ix ixd (me_var 1) me_int) me_str) (mw_or1 (mt_not (mt_val (me_fn (ok__law_quotient Z) (hr.mono (by decide)) (ma_cons (me_ix ixd (me_var 1) me_int) ma_nil)))))))
 (mss_one (ms_ret me_bl))
 mss_nil)
 (mss_cons (ms_set 3 me_bl)
 (mss_cons (ms_for (mi_seq (me_var 0)) (mg_name 4)
 (mss_cons (ms_set 3 (me_or (me_var 3) (me_one (me_cmp (od_eq (Room.u64 hr)) (me_var 4) (me_ix ixd (me_var 1) me_int)))))
 (mss_one (ms_if (mt_cmp od_lt (me_bin od_mul (me_var 2) (me_bin od_sub (me_bin od_mul (me_ix ixd (me_var 4) me_int) (me_ix ixd (me_ix ixd (me_var 1) me_int) me_int)) (me_bin od_mul (me_ix ixd (me_ix ixd (me_var 1) me_int) me_int) (me_ix ixd (me_var 4) me_int)))) me_int)
 (mss_one (ms_ret me_bl))
 mss_nil))))
 (mss_one (ms_ret (me_var 3)))))))
theorem sc__law_folded : FnScope N__law_folded ["_law_left", "_law_right", "_law_due_total", "_law_due_weighed"] (defScope s__law_folded) := ⟨rfl, rfl, rfl, by decide +kernel, rfl, by decide +kernel, by decide +kernel⟩
theorem ok__law_folded (Z : Ft P w K mg base) : OkD P w K mg base 5 "_law_folded" s__law_folded ["_law_left", "_law_right", "_law_due_total", "_law_due_weighed"] rf__law_folded := okd Z.g__law_folded Z.f__law_folded sc__law_folded (fun _ _ _ _ _ _ us hl => match us, hl with | [_, _, _, _], _ => rfl) (fun cdv A outer s H E hr =>
 (mss_cons (ms_set 4 (me_tup (ma_cons me_int (ma_cons me_int ma_nil))))
 (mss_cons (ms_set 5 (me_tup (ma_cons me_int (ma_cons me_int ma_nil))))
 (mss_cons (ms_for (mi_range1 (ma_cons (me_callB cd_len (ma_cons (me_var 0) ma_nil) Z.fr_len) ma_nil) Z.fr_range) (mg_name 6)
 (mss_cons (ms_set 4 (me_fn (ok_plus Z) (hr.mono (by decide)) (ma_cons (me_var 4) (ma_cons (me_ix ixd (me_var 0) (me_var 6)) ma_nil))))
 (mss_one (ms_set 5 (me_fnK0 (ks := ["one", "other"]) (pm := @pm01) (ok_plus Z) (hr.mono (by decide)) perm_01 (fun _ _ _ _ _ _ us ws h1 h2 => match us, ws, h1, h2 with | [], [_, _], _, _ => rfl) (mk_cons (me_fn (ok_times Z) (hr.mono (by decide)) (ma_cons (me_ix ixd (me_var 0) (me_var 6)) (ma_cons (me_ix ixd (me_var 1) (me_var 6)) ma_nil))) (mk_cons (me_var 5) mk_nil)))))))
 (mss_one (ms_ret (me_and (me_cmp (od_eq (Room.u64 hr)) (me_var 4) (me_var 2)) (me_one (me_cmp (od_eq (Room.u64 hr)) (me_var 5) (me_var 3))))))))))
theorem sc__law_ordered : FnScope N__law_ordered ["_law_row_held", "_law_pool_here"] (defScope s__law_ordered) := ⟨rfl, rfl, rfl, by decide +kernel, rfl, by decide +kernel, by decide +kernel⟩
theorem ok__law_ordered (Z : Ft P w K mg base) : OkD P w K mg base 5 "_law_ordered" s__law_ordered ["_law_row_held", "_law_pool_here"] rf__law_ordered := okd Z.g__law_ordered Z.f__law_ordered sc__law_ordered (fun _ _ _ _ _ _ us hl => match us, hl with | [_, _], _ => rfl) (fun cdv A outer s H E hr =>
 (mss_cons (ms_set 2 (me_fn (ok__law_take Z) (hr.mono (by decide)) (ma_cons (me_var 1) (ma_cons (me_callB cd_len (ma_cons (me_var 0) ma_nil) Z.fr_len) ma_nil))))
 (mss_cons (ms_for (mi_seq (me_slB (me_var 0) (me_var 2) (me_bin od_add (me_var 2) me_int))) (mg_name 3)
 (mss_one (ms_for (mi_seq (me_slH (me_var 0) me_int)) (mg_name 4)
 (mss_cons (ms_set 5 (me_fn (ok_is_less Z) (hr.mono (by decide)) (ma_cons (me_var 3) (ma_cons (me_var 4) ma_nil))))
 (mss_one (ms_if (mw_pt (mw_or (mt_not (mt_val (me_isi (T := "bool") (me_var 5) Z.fr_isinstance Z.fr_bool))) (mw_or1 (mt_cmp (od_ne (Room.u64 hr)) (me_var 5) (me_cmp od_lt (me_bin od_mul (me_ix ixd (me_var 3) me_int) (me_ix ixd (me_var 4) me_int)) (me_bin od_mul (me_ix ixd (me_var 4) me_int) (me_ix ixd (me_var 3) me_int)))))))
 (mss_one (ms_ret me_bl))
 mss_nil))))))
 (mss_one (ms_ret me_bl)))))
theorem sc__law_refused : FnScope N__law_refused ["_law_pool_here", "_law_left", "_law_right", "_law_named"] (defScope s__law_refused) := ⟨rfl, rfl, rfl, by decide +kernel, rfl, by decide +kernel, by decide +kernel⟩
theorem ok__law_refused (Z : Ft P w K mg base) : OkD P w K mg base 7 "_law_refused" s__law_refused ["_law_pool_here", "_law_left", "_law_right", "_law_named"] rf__law_refused := okd Z.g__law_refused Z.f__law_refused sc__law_refused (fun _ _ _ _ _ _ us hl => match us, hl with | [_, _, _, _], _ => rfl) (fun cdv A outer s H E hr =>
 (mss_cons (ms_set 4 (me_fn (ok__law_bad Z) (hr.mono (by decide)) (ma_cons (me_var 0) ma_nil)))
 (mss_cons (ms_set 5 (me_fn (ok__law_take Z) (hr.mono (by decide)) (ma_cons (me_var 0) (ma_cons (me_bin od_add (me_callB cd_len (ma_cons (me_var 1) ma_nil) Z.fr_len) me_int) ma_nil))))
 (mss_cons (ms_set 6 (me_callTy cd_tuple (ma_cons (me_bin od_add (me_bin od_add (me_slH (me_var 1) (me_var 5)) (me_lst (ma_cons (me_var 4) ma_nil))) (me_slL (me_var 1) (me_var 5))) ma_nil) Z.fr_tuple))
 (mss_cons (ms_for (mi_range1 (ma_cons me_int ma_nil) Z.fr_range) (mg_name 7)
 (mss_cons (ms_if (mt_cmp (od_ne (Room.u64 hr)) (me_fn (ok__law_ask Z) (hr.mono (by decide)) (ma_cons (me_var 7) (ma_cons (me_var 6) (ma_cons (me_callTy cd_tuple (ma_cons (me_var 2) ma_nil) Z.fr_tuple) (ma_cons (me_var 3) ma_nil))))) (me_tup (ma_cons me_str (ma_cons me_str ma_nil))))
 (mss_one (ms_ret me_bl))
 mss_nil)
 (mss_one (ms_if (mt_cmp (od_ne (Room.u64 hr)) (me_fn (ok__law_ask Z) (hr.mono (by decide)) (ma_cons (me_var 7) (ma_cons (me_callTy cd_list (ma_cons (me_var 1) ma_nil) Z.fr_list) (ma_cons (me_callTy cd_list (ma_cons (me_var 2) ma_nil) Z.fr_list) (ma_cons (me_var 3) ma_nil))))) (me_tup (ma_cons me_str (ma_cons me_str ma_nil))))
 (mss_one (ms_ret me_bl))
 mss_nil))))
 (mss_cons (ms_set 8 (me_bin od_add (me_callTy cd_tuple (ma_cons (me_var 2) ma_nil) Z.fr_tuple) (me_tup (ma_cons (me_tup (ma_cons me_int (ma_cons me_int ma_nil))) ma_nil))))
 (mss_cons (ms_if (mt_cmp (od_ne (Room.u64 hr)) (me_fn (ok__law_ask Z) (hr.mono (by decide)) (ma_cons me_int (ma_cons (me_callTy cd_tuple (ma_cons (me_var 1) ma_nil) Z.fr_tuple) (ma_cons (me_var 8) (ma_cons (me_var 3) ma_nil))))) (me_tup (ma_cons me_str (ma_cons me_str ma_nil))))
 (mss_one (ms_ret me_bl))
 mss_nil)
 (mss_cons (ms_if (mt_cmp (od_ne (Room.u64 hr)) (me_fn (ok__law_ask Z) (hr.mono (by decide)) (ma_cons me_int (ma_cons (me_var 8) (ma_cons (me_callTy cd_tuple (ma_cons (me_var 1) ma_nil) Z.fr_tuple) (ma_cons (me_not (me_var 3)) ma_nil))))) (me_tup (ma_cons me_str (ma_cons me_str ma_nil))))
 (mss_one (ms_ret me_bl))
 mss_nil)
 (mss_cons (ms_if (mt_cmp (od_ne (Room.u64 hr)) (me_fn (ok__law_ask Z) (hr.mono (by decide)) (ma_cons me_int (ma_cons (me_callTy cd_tuple (ma_cons (me_var 1) ma_nil) Z.fr_tuple) (ma_cons (me_callTy cd_list (ma_cons (me_var 2) ma_nil) Z.fr_list) (ma_cons (me_var 3) ma_nil))))) (me_tup (ma_cons me_str (ma_cons me_str ma_nil))))
 (mss_one (ms_ret me_bl))
 mss_nil)
 (mss_cons (ms_set 9 (me_callTy cd_list (ma_cons (me_var 2) ma_nil) Z.fr_list))
 (mss_cons (ms_if (mt_cmp od_gt (me_callB cd_len (ma_cons (me_var 9) ma_nil) Z.fr_len) me_int)
 (mss_cons (ms_sub sd_list (me_var 4) (me_var 9) (me_fn (ok__law_take Z) (hr.mono (by decide)) (ma_cons (me_var 0) (ma_cons (me_callB cd_len (ma_cons (me_var 9) ma_nil) Z.fr_len) ma_nil))))
 (mss_one (ms_if (mt_cmp (od_ne (Room.u64 hr)) (me_fn (ok__law_ask Z) (hr.mono (by decide)) (ma_cons me_int (ma_cons (me_callTy cd_tuple (ma_cons (me_var 1) ma_nil) Z.fr_tuple) (ma_cons (me_callTy cd_tuple (ma_cons (me_var 9) ma_nil) Z.fr_tuple) (ma_cons (me_var 3) ma_nil))))) (me_tup (ma_cons me_str (ma_cons me_str ma_nil))))
 (mss_one (ms_ret me_bl))
 mss_nil)))
 mss_nil)
 (mss_cons (ms_for (mi_seq (me_lst (ma_cons me_int (ma_cons me_int ma_nil)))) (mg_name 7)
 (mss_one (ms_if (mt_cmp (od_ne (Room.u64 hr)) (me_fn (ok__law_ask Z) (hr.mono (by decide)) (ma_cons (me_var 7) (ma_cons (me_tup ma_nil) (ma_cons (me_tup ma_nil) (ma_cons (me_var 3) ma_nil))))) (me_tup (ma_cons me_str (ma_cons me_str ma_nil))))
 (mss_one (ms_ret me_bl))
 mss_nil)))
 (mss_one (ms_ret me_bl))))))))))))))
theorem sc_law : FnScope N_law ["_law_script"] (defScope s_law) := ⟨rfl, rfl, rfl, by decide +kernel, rfl, by decide +kernel, by decide +kernel⟩
theorem ok_law (Z : Ft P w K mg base) : OkD P w K mg base 8 "law" s_law ["_law_script"] rf_law := okd Z.g_law Z.f_law sc_law (fun _ _ _ _ _ _ us hl => match us, hl with | [_], _ => rfl) (fun cdv A outer s H E hr =>
 (mss_cons (ms_set 1 (me_fn (ok__law_pool Z) (hr.mono (by decide)) (ma_cons (me_var 0) ma_nil)))
 (mss_cons (ms_set 2 (me_cmp (od_eq (Room.u64 hr)) (me_fn (ok__law_take Z) (hr.mono (by decide)) (ma_cons (me_var 1) (ma_cons me_int ma_nil))) me_int))
 (mss_cons (ms_set 3 (me_fn (ok__law_rows Z) (hr.mono (by decide)) (ma_cons (me_var 1) ma_nil)))
 (mss_cons (ms_set 4 (me_ix ixd (me_var 3) me_int))
 (mss_cons (ms_set 5 (me_ix ixd (me_var 3) me_int))
 (mss_cons (ms_set 6 (me_bin od_mul (me_lst (ma_cons (me_tup (ma_cons me_int (ma_cons me_int ma_nil))) ma_nil)) (me_callB cd_len (ma_cons (me_var 4) ma_nil) Z.fr_len)))
 (mss_cons (ms_set 7 (me_fn (ok__law_ask Z) (hr.mono (by decide)) (ma_cons me_int (ma_cons (me_callTy cd_tuple (ma_cons (me_var 4) ma_nil) Z.fr_tuple) (ma_cons (me_tup ma_nil) (ma_cons (me_var 2) ma_nil))))))
 (mss_cons (ms_set 8 (me_fn (ok__law_ask Z) (hr.mono (by decide)) (ma_cons me_int (ma_cons (me_callTy cd_tuple (ma_cons (me_var 4) ma_nil) Z.fr_tuple) (ma_cons (me_callTy cd_tuple (ma_cons (me_var 5) ma_nil) Z.fr_tuple) (ma_cons (me_not (me_var 2)) ma_nil))))))
 (mss_cons (ms_if (mw_pt (mw_or (mt_not (mt_val (me_fn (ok__law_sum Z) (hr.mono (by decide)) (ma_cons (me_var 4) (ma_cons (me_var 6) (ma_cons (me_var 7) ma_nil)))))) (mw_or1 (mt_not (mt_val (me_fn (ok__law_sum Z) (hr.mono (by decide)) (ma_cons (me_var 4) (ma_cons (me_var 5) (ma_cons (me_var 8) ma_nil)))))))))
 (mss_one (ms_ret me_bl))
 mss_nil)
 (mss_cons (ms_if (mt_not (mt_val (me_fn (ok__law_sum Z) (hr.mono (by decide)) (ma_cons (me_var 5) (ma_cons (me_var 6) (ma_cons (me_fn (ok__law_ask Z) (hr.mono (by decide)) (ma_cons me_int (ma_cons (me_callTy cd_tuple (ma_cons (me_var 5) ma_nil) Z.fr_tuple) (ma_cons (me_tup ma_nil) (ma_cons (me_not (me_var 2)) ma_nil))))) ma_nil))))))
 (mss_one (ms_ret me_bl))
 mss_nil)
 (mss_cons (ms_if (mt_not (mt_val (me_fn (ok__law_sum Z) (hr.mono (by decide)) (ma_cons (me_var 4) (ma_cons (me_var 4) (ma_cons (me_fn (ok__law_ask Z) (hr.mono (by decide)) (ma_cons me_int (ma_cons (me_callTy cd_tuple (ma_cons (me_var 4) ma_nil) Z.fr_tuple) (ma_cons (me_callTy cd_tuple (ma_cons (me_var 4) ma_nil) Z.fr_tuple) (ma_cons (me_var 2) ma_nil))))) ma_nil))))))
 (mss_one (ms_ret me_bl))
 mss_nil)
 (mss_cons (ms_if (mt_cmp (od_ne (Room.u64 hr)) (me_fn (ok__law_ask Z) (hr.mono (by decide)) (ma_cons me_int (ma_cons (me_callTy cd_tuple (ma_cons (me_rev (me_var 5)) ma_nil) Z.fr_tuple) (ma_cons (me_callTy cd_tuple (ma_cons (me_rev (me_var 4)) ma_nil) Z.fr_tuple) (ma_cons (me_var 2) ma_nil))))) (me_var 8))
 (mss_one (ms_ret me_bl))
 mss_nil)
 (mss_cons (ms_if (mw_pt (mw_and (mt_cmp (od_eq (Room.u64 hr)) (me_ix ixd (me_var 3) me_int) me_int) (mw_and1 (mt_not (mt_val (me_fn (ok__law_folded Z) (hr.mono (by decide)) (ma_cons (me_var 4) (ma_cons (me_var 5) (ma_cons (me_ix ixd (me_var 7) me_int) (ma_cons (me_ix ixd (me_var 8) me_int) ma_nil))))))))))
 (mss_one (ms_ret me_bl))
 mss_nil)
 (mss_cons (ms_if (mt_not (mt_val (me_fn (ok__law_refused Z) (hr.mono (by decide)) (ma_cons (me_var 1) (ma_cons (me_var 4) (ma_cons (me_var 5) (ma_cons (me_var 2) ma_nil)))))))
 (mss_one (ms_ret me_bl))
 mss_nil)
 (mss_cons (ms_set 9 (me_bin od_add (me_var 4) (me_var 5)))
 (mss_cons (ms_if (mt_cmp (od_eq (Room.u64 hr)) (me_callB cd_len (ma_cons (me_var 9) ma_nil) Z.fr_len) me_int)
 (mss_one (ms_ret me_bl))
 mss_nil)
 (mss_cons (ms_if (mt_not (mt_val (me_fn (ok__law_end Z) (hr.mono (by decide)) (ma_cons (me_var 9) (ma_cons (me_fn (ok__law_ask Z) (hr.mono (by decide)) (ma_cons me_int (ma_cons (me_callTy cd_tuple (ma_cons (me_var 9) ma_nil) Z.fr_tuple) (ma_cons (me_tup ma_nil) (ma_cons (me_var 2) ma_nil))))) (ma_cons me_int ma_nil))))))
 (mss_one (ms_ret me_bl))
 mss_nil)
 (mss_cons (ms_if (mt_not (mt_val (me_fn (ok__law_end Z) (hr.mono (by decide)) (ma_cons (me_var 9) (ma_cons (me_fn (ok__law_ask Z) (hr.mono (by decide)) (ma_cons me_int (ma_cons (me_callTy cd_tuple (ma_cons (me_var 9) ma_nil) Z.fr_tuple) (ma_cons (me_tup ma_nil) (ma_cons (me_not (me_var 2)) ma_nil))))) (ma_cons (me_un ud_neg me_int) ma_nil))))))
 (mss_one (ms_ret me_bl))
 mss_nil)
 (mss_cons (ms_if (mt_not (mt_val (me_fn (ok__law_end Z) (hr.mono (by decide)) (ma_cons (me_var 5) (ma_cons (me_fn (ok__law_ask Z) (hr.mono (by decide)) (ma_cons me_int (ma_cons (me_callTy cd_tuple (ma_cons (me_var 5) ma_nil) Z.fr_tuple) (ma_cons (me_tup ma_nil) (ma_cons (me_not (me_var 2)) ma_nil))))) (ma_cons me_int ma_nil))))))
 (mss_one (ms_ret me_bl))
 mss_nil)
 (mss_one (ms_ret (me_and (me_fn (ok__law_end Z) (hr.mono (by decide)) (ma_cons (me_var 4) (ma_cons (me_fn (ok__law_ask Z) (hr.mono (by decide)) (ma_cons me_int (ma_cons (me_callTy cd_tuple (ma_cons (me_var 4) ma_nil) Z.fr_tuple) (ma_cons (me_tup ma_nil) (ma_cons (me_var 2) ma_nil))))) (ma_cons (me_un ud_neg me_int) ma_nil)))) (me_one (me_fn (ok__law_ordered Z) (hr.mono (by decide)) (ma_cons (me_var 9) (ma_cons (me_var 1) ma_nil)))))))))))))))))))))))))))
end LawM
end
section
set_option Elab.async false
set_option linter.all false
set_option maxRecDepth 100000
set_option maxHeartbeats 0
/-! the head -/
namespace LawM
open PySem PySem.Spec PyProof.Rows L2 MP
def dF (x : Str) (st : Stmt) : He.DefD := ⟨(x, none), x, x, defArgs st, defBody st, defScope st, [], []⟩
def dI (x : Str) (q : Str) (st : Stmt) : He.DefD := ⟨(x, some "__init__"), "__init__", q, defArgs st, defBody st, defScope st, [], []⟩
def inClass (st : Stmt) (j : Nat) : Stmt := match st with
  | .ClassDef _ _ _ b _ _ _ _ _ _ _ => b.getD j (.Pass ⟨0, 0, 0, 0⟩)
  | s => s
def i_NotUsable : Stmt := inClass (top 6) 0
theorem sci_NotUsable : FnScope ["self", "word", "at"] ["self", "word", "at"] (defScope i_NotUsable) := ⟨rfl, rfl, rfl, by decide +kernel, rfl, by decide +kernel, by decide +kernel⟩
def fn : List He.DefD := [dF "settle" s_settle, dF "is_integer" s_is_integer, dF "is_quotient" s_is_quotient, dF "_is_row" s__is_row, dF "total" s_total, dF "weighed" s_weighed, dF "_need_some" s__need_some, dF "least_of" s_least_of, dF "greatest_of" s_greatest_of, dF "_need_two" s__need_two, dF "plus" s_plus, dF "times" s_times, dF "is_less" s_is_less, dF "_law_mixed" s__law_mixed, dF "_law_pool" s__law_pool, dF "_law_take" s__law_take, dF "_law_whole" s__law_whole, dF "_law_common" s__law_common, dF "_law_low" s__law_low, dF "_law_quotient" s__law_quotient, dF "_law_stands" s__law_stands, dF "_law_draw" s__law_draw, dF "_law_rows" s__law_rows, dF "_law_bad" s__law_bad, dF "_law_ask" s__law_ask, dF "_law_sum" s__law_sum, dF "_law_end" s__law_end, dF "_law_folded" s__law_folded, dF "_law_ordered" s__law_ordered, dF "_law_refused" s__law_refused, dF "law" s_law, dI "NotUsable" "NotUsable.__init__" i_NotUsable]
def xfr : List Str := (["abs", "all", "bool", "int", "isinstance", "len", "list", "range", "str", "sum", "tuple", "zip"] : List Str)
def xbl : List (Str × String) := [("gcd", "math.gcd"), ("lcm", "math.lcm")]
def xgl : List Str := (["settle", "is_integer", "is_quotient", "_is_row", "total", "weighed", "_need_some", "least_of", "greatest_of", "_need_two", "plus", "times", "is_less", "_law_mixed", "_law_pool", "_law_take"] : List Str) ++ (["_law_whole", "_law_common", "_law_low", "_law_quotient", "_law_stands", "_law_draw", "_law_rows", "_law_bad", "_law_ask", "_law_sum", "_law_end", "_law_folded", "_law_ordered", "_law_refused", "law"] : List Str)
def xex : List (Str × Str × Bool) := [("NotUsable", "NotUsable", true)]
def ex (K : PySem.W.Frag) : Bool := (freeB xfr K && (bltB xbl K && (gloB xgl K && exmB xex K))) && (errB "NotUsable" ["word", "at"] K)
abbrev R : PySem.W.OpenRow := PySem.W.OpenLaw.row PySem.Challenge.rw_hungwall_k01_whole_sums_and_orders
abbrev hk : PySem.W.Hook := hookM 4 fn ex
def ob (s : PySem.W.SharedT) : AlM := obsM 4 fn ex (HandSHeadRun.getT s)
theorem ob_eq (s : PySem.W.SharedT) : ob s = hk.obs s.abs := obsM_eq (HandSHeadRun.getT_eq s)
def loose0 : List Str := ["gcd", "lcm", "__name__", "settle", "HangError", "PlanError", "NotUsable", "is_integer", "is_quotient", "total", "weighed", "least_of", "greatest_of", "_is_row", "_need_some", "plus"]
def loose1 : List Str := ["times", "is_less", "_need_two", "_law_mixed", "_law_pool", "_law_take", "_law_whole", "_law_common", "_law_low", "_law_quotient", "_law_stands", "_law_draw", "_law_rows", "_law_bad", "_law_ask", "_law_sum"]
def loose2 : List Str := ["_law_end", "_law_folded", "_law_ordered", "_law_refused"]
def loose : List Str := loose0 ++ loose1 ++ loose2
theorem run (w : World) : HandSHeadRun.RunEqI R (PySem.W.view R.prog [0, 40]) hk ob 6000 loose w := by
  unfold HandSHeadRun.RunEqI
  kernel_rfl
end LawM
end
section
set_option Elab.async false
set_option linter.all false
set_option maxRecDepth 100000
set_option maxHeartbeats 4000000
/-! the facts -/
namespace LawM
open PySem PySem.Spec PyProof.Rows L2 MP
variable {P : Program} {w : World} {K : PySem.W.Frag} {mg : Str → Option Value} {h base : Heap}
theorem fun_at (c : SaysM fn ex K) (i : Nat) {x : Str} {st : Stmt} (e : fn[i]? = some (dF x st) := by rfl) : ∃ fd, Fun K x x st (He.ga K x) fd := by
  obtain ⟨fd, F⟩ := c.defs.def_ i (d := dF x st) e
  exact ⟨fd, fun_of F⟩
theorem facts (X : K.In h) (G : h.Ns mainGlobals mg) (c : SaysM fn ex K) : Ft P w K mg base := by
  have m := c.more
  unfold ex at m
  simp only [Bool.and_eq_true] at m
  obtain ⟨⟨m1, m2, m3, m4⟩, me_NotUsable⟩ := m
  exact {
    fr_abs := free_of X G m1 (by decide)
    fr_all := free_of X G m1 (by decide)
    fr_bool := free_of X G m1 (by decide)
    fr_int := free_of X G m1 (by decide)
    fr_isinstance := free_of X G m1 (by decide)
    fr_len := free_of X G m1 (by decide)
    fr_list := free_of X G m1 (by decide)
    fr_range := free_of X G m1 (by decide)
    fr_str := free_of X G m1 (by decide)
    fr_sum := free_of X G m1 (by decide)
    fr_tuple := free_of X G m1 (by decide)
    fr_zip := free_of X G m1 (by decide)
    bl_gcd := blt_of X G m2 (by decide)
    bl_lcm := blt_of X G m2 (by decide)
    g_settle := glo_of X G m3 (by decide)
    g_is_integer := glo_of X G m3 (by decide)
    g_is_quotient := glo_of X G m3 (by decide)
    g__is_row := glo_of X G m3 (by decide)
    g_total := glo_of X G m3 (by decide)
    g_weighed := glo_of X G m3 (by decide)
    g__need_some := glo_of X G m3 (by decide)
    g_least_of := glo_of X G m3 (by decide)
    g_greatest_of := glo_of X G m3 (by decide)
    g__need_two := glo_of X G m3 (by decide)
    g_plus := glo_of X G m3 (by decide)
    g_times := glo_of X G m3 (by decide)
    g_is_less := glo_of X G m3 (by decide)
    g__law_mixed := glo_of X G m3 (by decide)
    g__law_pool := glo_of X G m3 (by decide)
    g__law_take := glo_of X G m3 (by decide)
    g__law_whole := glo_of X G m3 (by decide)
    g__law_common := glo_of X G m3 (by decide)
    g__law_low := glo_of X G m3 (by decide)
    g__law_quotient := glo_of X G m3 (by decide)
    g__law_stands := glo_of X G m3 (by decide)
    g__law_draw := glo_of X G m3 (by decide)
    g__law_rows := glo_of X G m3 (by decide)
    g__law_bad := glo_of X G m3 (by decide)
    g__law_ask := glo_of X G m3 (by decide)
    g__law_sum := glo_of X G m3 (by decide)
    g__law_end := glo_of X G m3 (by decide)
    g__law_folded := glo_of X G m3 (by decide)
    g__law_ordered := glo_of X G m3 (by decide)
    g__law_refused := glo_of X G m3 (by decide)
    g_law := glo_of X G m3 (by decide)
    f_settle := fun_at c 0
    f_is_integer := fun_at c 1
    f_is_quotient := fun_at c 2
    f__is_row := fun_at c 3
    f_total := fun_at c 4
    f_weighed := fun_at c 5
    f__need_some := fun_at c 6
    f_least_of := fun_at c 7
    f_greatest_of := fun_at c 8
    f__need_two := fun_at c 9
    f_plus := fun_at c 10
    f_times := fun_at c 11
    f_is_less := fun_at c 12
    f__law_mixed := fun_at c 13
    f__law_pool := fun_at c 14
    f__law_take := fun_at c 15
    f__law_whole := fun_at c 16
    f__law_common := fun_at c 17
    f__law_low := fun_at c 18
    f__law_quotient := fun_at c 19
    f__law_stands := fun_at c 20
    f__law_draw := fun_at c 21
    f__law_rows := fun_at c 22
    f__law_bad := fun_at c 23
    f__law_ask := fun_at c 24
    f__law_sum := fun_at c 25
    f__law_end := fun_at c 26
    f__law_folded := fun_at c 27
    f__law_ordered := fun_at c 28
    f__law_refused := fun_at c 29
    f_law := fun_at c 30
    x_NotUsable := exm_of m4 (by decide)
    e_NotUsable := by
      obtain ⟨fd, F⟩ := c.defs.def_ 31 (d := dI "NotUsable" "NotUsable.__init__" i_NotUsable) rfl
      have F := fun_of (x := "__init__") (q := "NotUsable.__init__") (st := i_NotUsable) (f := He.ma K (He.ga K "NotUsable") "__init__") F
      have E := errB_ok me_NotUsable
      exact ⟨PySem.W.mg_of X G E.ns, E, fd, ini2 F sci_NotUsable E ⟨_, _, _, _, _, _, _, _, rfl⟩, F.binds fun _ _ _ _ _ _ us hl => match us, hl with | [_, _, _], _ => rfl⟩
  }
end LawM
end
section
set_option Elab.async false
set_option linter.all false
set_option maxRecDepth 100000
set_option maxHeartbeats 0
/-! the end -/
namespace LawM
open PySem PySem.W PySem.Calls PySem.Spec PyProof.Rows L2 MP
theorem fun_same {K : PySem.W.Frag} {x q : Str} {st : Stmt} {f : Addr} {fd fd' : FuncData} (a : Fun K x q st f fd) (b : Fun K x q st f fd') : fd = fd' := by
  obtain ⟨⟨oc, od, kV, doc, pm, an, cdv, ct, osl, e, lk, hcd⟩, _⟩ := a
  obtain ⟨⟨oc', od', kV', doc', pm', an', cdv', ct', osl', e', lk', hcd'⟩, _⟩ := b
  rw [lk] at lk'
  cases lk'
  rfl
theorem binds_all {K : PySem.W.Frag} {x : Str} {st : Stmt} {f : Addr} {fd : FuncData} {ps : List Str} (F : Fun K x x st f fd) (hb : BindOk x st ps) (s : Shared) (us : List Value) (h : us.length = ps.length) : BindsTo s fd ⟨us, []⟩ (ps.zip us) := by
  obtain ⟨oc, od, kV, doc, pm', an, cdv, ct, osl, rfl, lk, hcd⟩ := F.ex
  exact .of_eq (hb kV doc pm' an cdv ct us h)
theorem ends (pure : ∀ ns : List Int, ns.length ≤ 63 → (∀ z ∈ ns, Builtin.Int.intBits z ≤ 1048576) → ∃ S, rf_law [.frl (ns.map D.int)] [] = .ok (.bl true) S) : PySem.Challenge.rw_hungwall_k01_whole_sums_and_orders.Holds := by
  w_on; o_law
  refine HandSHeadRun.head_imp (r := OpenLaw.row PySem.Challenge.rw_hungwall_k01_whole_sums_and_orders) (q := view (OpenLaw.row PySem.Challenge.rw_hungwall_k01_whole_sums_and_orders).prog [0, 40]) (H := hk) (ob := ob) (M := 6000) (loose := loose) (d := HandSHeadRun.topDef (OpenLaw.row PySem.Challenge.rw_hungwall_k01_whole_sums_and_orders).prog 40) (kwd := []) ob_eq
     run (by kernel_rfl) (by kernel_rfl) (by kernel_rfl) (by rfl) (by first | assumption | decide +kernel) (by decide +kernel) ⟨rfl, rfl, rfl, rfl, rfl, by decide +kernel⟩ ?hw ?hc
  case hw => w_witness2
  case hc =>
    refine walk_bits (l := PySem.Challenge.rw_hungwall_k01_whole_sums_and_orders) (n := 63) (k := 8) (x := "_law_script") rfl (by decide) (by kernel_rfl) ⟨rfl, by decide, by decide⟩ ?F
    intro w mg fa h Y G hmg0
    obtain ⟨K, KX, c⟩ := Y
    have hmg : mg ("law" : PySem.Str) = some (.ref fa) := by
      have e : (HandSHeadRun.topDef (OpenLaw.row PySem.Challenge.rw_hungwall_k01_whole_sums_and_orders).prog 40).name = ("law" : PySem.Str) := by kernel_rfl
      rw [← e]
      exact hmg0
    have Z0 := fun base => facts (P := (PySem.Challenge.rw_hungwall_k01_whole_sums_and_orders).prog) (w := w) (base := base) KX G c
    obtain ⟨gm, fd, F, ok0, bd⟩ := ok_law (Z0 h)
    have e := hmg.symm.trans gm
    cases e
    refine ⟨K, fd, spEv ⟨K, mg, none⟩ 1 rf_law, KX, fun s u => binds_all (ps := ["_law_script"]) F (fun _ _ _ _ _ _ us hl => match us, hl with | [_], _ => rfl) s [u] rfl, fun H a ns hl hb hO hS => law_sp hO hS (pure ns hl hb), fun base hB hG => ?_⟩
    obtain ⟨gm2, fd2, F2, ok2, bd2⟩ := ok_law (Z0 base)
    have e2 : fd2 = fd := fun_same F2 F
    subst e2
    exact ok2
end LawM
end
section
set_option Elab.async false
set_option linter.all false
set_option maxRecDepth 100000
set_option maxHeartbeats 1000000
/-! P14: the law. -/
namespace LawM
open PySem PySem.Spec PyProof.Rows L2 MP
theorem toPy_told {q : Int × Int} {S : Sto} : toPy S deep (told (dq q)) = some (.tuple [.str "told", .tuple [.int q.1, .int q.2]]) := by
  have h1 : ∀ S, toPy S 39 (.str "told") = some (.str "told") := fun S => by
    show (if PyData.strOk "told" = true then some (PyData.str "told") else none) = _
    rw [if_pos (by decide +kernel)]
  have h2 : ∀ S, toPy S 39 (dq q) = some (.tuple [.int q.1, .int q.2]) := fun S => rfl
  show (toPyL (toPy S 39) [.str "told", dq q]).map PyData.tuple = _
  simp [toPyL, h1, h2]
theorem ne_told {q : Int × Int} {S : Sto} : dNe (told (dq q)) (told (dq q)) S = some (.bl false, S) := by
  rw [dNe_of toPy_told toPy_told]
  simp [PyData.eqv, PyData.eqvAll]
theorem rep_one {S : Sto} {l n : Nat} {x : D} (h : S[l]? = some [x]) (hn : n < 1000) : dMul (.lst l) (.int (n : Int)) S = some (.lst S.length, S ++ [List.replicate n x]) := by
  unfold dMul
  simp only [h]
  rw [if_pos ⟨by omega, by omega, by simp [most]; omega⟩]
  simp
theorem rev_ev {i l : Nat} {ρ : MP.Env} {S : Sto} {xs : List D} (h : ρ[i]? = some (some (.lst l))) (hl : S[l]? = some xs) : eU dRev (eVar i) ρ S = .ok (.lst S.length) (S ++ [xs.reverse]) := by
  refine u_ok (var_ok h) ?_
  unfold dRev
  simp only [hl, Option.map_some]
theorem tup_of {e : Ev} {l : Nat} {ρ : MP.Env} {S S' : Sto} {xs : List D} (h : e ρ S = .ok (.lst l) S') (hl : S'[l]? = some xs) : eL dTupOf (aCons e aNil) ρ S = .ok (.tup xs) S' := by
  unfold eL aCons aNil
  rw [h, Res.bind_ok, Res.bind_ok, Res.bind_ok, tup_lst hl, lift_some]
theorem least_q {β : Nat} {l : List (Int × Int)} (hq : ∀ q ∈ l, Qu q) (hb : Bts l β) (hβ : β ≤ 4450) (h0 : l ≠ []) (hn : l.length ≤ 1000) : ∃ q, q ∈ l ∧ Qu q ∧ (∀ S, Ans (rf_least_of [.tup (l.map dq)] S) (dq q) S) ∧ ∀ x ∈ l, 0 ≤ 1 * (x.1 * q.2 - q.1 * x.2) := by
  match l, h0 with
  | m :: l, _ =>
    obtain ⟨a, b, c⟩ := minF_spec (m :: l) m (by have := (hq m (by simp)).1; omega) fun q h => by have := (hq q h).1; omega
    have hm : minF (m :: l) m ∈ m :: l := by
      rcases a with a | a
      · rw [a]; simp
      · exact a
    refine ⟨minF (m :: l) m, hm, hq _ hm, fun S => least_ok hq hb hβ hn S, fun x hx => ?_⟩
    have := c x hx
    unfold le at this
    omega
theorem greatest_q {β : Nat} {l : List (Int × Int)} (hq : ∀ q ∈ l, Qu q) (hb : Bts l β) (hβ : β ≤ 4450) (h0 : l ≠ []) (hn : l.length ≤ 1000) : ∃ q, q ∈ l ∧ Qu q ∧ (∀ S, Ans (rf_greatest_of [.tup (l.map dq)] S) (dq q) S) ∧ ∀ x ∈ l, 0 ≤ -1 * (x.1 * q.2 - q.1 * x.2) := by
  match l, h0 with
  | m :: l, _ =>
    obtain ⟨a, b, c⟩ := maxF_spec (m :: l) m (by have := (hq m (by simp)).1; omega) fun q h => by have := (hq q h).1; omega
    have hm : maxF (m :: l) m ∈ m :: l := by
      rcases a with a | a
      · rw [a]; simp
      · exact a
    refine ⟨maxF (m :: l) m, hm, hq _ hm, fun S => greatest_ok hq hb hβ hn S, fun x hx => ?_⟩
    have := c x hx
    unfold le at this
    omega
theorem q_tup0 (ρ : MP.Env) (S : Sto) : eTup aNil ρ S = .ok (.tup []) S := by
  simp [eTup, eL, aNil, dTup_ok]
theorem q_neg1 (ρ : MP.Env) (S : Sto) : eU dNeg (eC (.int 1)) ρ S = .ok (.int (-1)) S := by
  simp [eU, dNeg, eC]
theorem if_no {t : EvB} {a b : Es} {ρ : MP.Env} {S S' : Sto} {k : Bool} (h : t ρ S = .ok k S') (hk : k = false) : sSeq (sIf t a sSkip) b ρ S = b ρ S' := by
  subst hk
  rw [seq_next (if_s h)]
theorem rw_rev {β n : Nat} {l : List (Int × Int)} (h : Rw β n l) : Rw β n l.reverse :=
  ⟨by rw [List.length_reverse]; exact h.len, fun q hq => h.qu q (List.mem_reverse.mp hq), fun q hq => h.bt q (List.mem_reverse.mp hq)⟩
theorem rw_ones {β n : Nat} (h : 1 ≤ β) : Rw β n (List.replicate n ((1 : Int), (1 : Int))) := by
  have b1 : Bt (1 : Int) β := Bt.mono (a := 1) (by unfold Bt; decide) h
  refine ⟨List.length_replicate, fun q hq => ?_, fun q hq => ?_⟩
  · rw [List.eq_of_mem_replicate hq]
    exact ⟨by decide, by decide⟩
  · rw [List.eq_of_mem_replicate hq]
    exact ⟨b1, b1⟩
theorem law_ok {ns : List Int} (hb : ∀ z ∈ ns, Bt z 2000000) : ∃ S, rf_law [.frl (ns.map D.int)] [] = .ok (.bl true) S := by
  have ask_is := ask_is
  obtain ⟨a0, a1, a2, a3, -, -, -, -⟩ := ask_is
  obtain ⟨P, e0, h0⟩ := pool_ok hb
  unfold rf_law runDef ev_law
  rw [show begins 10 [D.frl (ns.map D.int)] = [some (.frl (ns.map D.int)), none, none, none, none, none, none, none, none, none] from rfl]
  rw [seq_next (ret_asg ((call1 (var_ok rfl)).trans e0))]
  generalize some (D.frl (ns.map D.int)) = p0
  generalize ns.map D.int = C at h0 ⊢
  clear e0
  simp only [List.set_cons_zero, List.set_cons_succ]
  obtain ⟨t, C1, P1, e1, l1, h1⟩ := tk_at take_is (R := []) (ρ := [p0, some (.lst 1), none, none, none, none, none, none, none, none]) (a := eVar 1) (e := eC (.int 2)) (m := 2) h0 (var_ok rfl) c_ok (by decide) (by decide) (by decide)
  rw [seq_next (ret_asg (eq_ok e1 c_ok))]
  simp only [List.set_cons_zero, List.set_cons_succ]
  generalize decide ((t : Int) = 1) = nm
  obtain ⟨s, n, β, l, r, C2, P2, R0, a, b, c, k, er, zc, za, zb, wl, wr, h2⟩ := rows_ok (R := []) h1 (by decide)
  rw [seq_next (ret_asg ((call1 (var_ok rfl)).trans er))]
  simp only [List.set_cons_zero, List.set_cons_succ]
  have hn : n ≤ 40 := by
    rcases k with ⟨-, h, -⟩ | ⟨-, h, -⟩ | ⟨-, h, -⟩ <;> omega
  have hβ : β ≤ 4450 ∧ 1 ≤ β := by
    rcases k with ⟨-, -, rfl⟩ | ⟨-, -, rfl⟩ | ⟨-, -, rfl⟩ <;> omega
  have hbn : β * n ≤ 4450 := by
    rcases k with ⟨-, h, rfl⟩ | ⟨-, h, rfl⟩ | ⟨-, h, rfl⟩ <;> omega
  have i0 : dIx (.lst (c + 2)) (.int 0) (C2 :: P2 :: R0) = some (.lst (a + 2), C2 :: P2 :: R0) := ix_lst (k := 0) (show (C2 :: P2 :: R0)[c + 2]? = _ from zc) rfl
  have i1 : dIx (.lst (c + 2)) (.int 1) (C2 :: P2 :: R0) = some (.lst (b + 2), C2 :: P2 :: R0) := ix_lst (k := 1) (show (C2 :: P2 :: R0)[c + 2]? = _ from zc) rfl
  rw [seq_next (ret_asg (b_ok (var_ok rfl) c_ok i0))]
  simp only [List.set_cons_zero, List.set_cons_succ]
  rw [seq_next (ret_asg (b_ok (var_ok rfl) c_ok i1))]
  simp only [List.set_cons_zero, List.set_cons_succ]
  have q1 : ∀ ρ S, eLst (aCons (eTup (aCons (eC (.int 1)) (aCons (eC (.int 1)) aNil))) aNil) ρ S = .ok (.lst S.length) (S ++ [[dq (1, 1)]]) := fun ρ S => by
    simp [eLst, eL, eTup, aCons, aNil, eC, dTup_ok, dLst_ok, dq]
  have eo : List.replicate (l.map dq).length (dq (1, 1)) = (List.replicate n ((1 : Int), (1 : Int))).map dq := by simp [wl.len]
  have gz : Sg C2 P2 R0 (C2 :: P2 :: R0 ++ [[dq (1, 1)]]) := Sg.app ⟨R0, rfl, Kp.refl _⟩ _
  rw [seq_next (ret_asg (b_ok (q1 _ _) (len_ev (i := 4) rfl (gz.at za)) (rep_one (x := dq (1, 1)) (by simp) (by simp [wl.len]; omega))))]
  rw [eo, show (C2 :: P2 :: R0 ++ [[dq (1, 1)]] ++ [(List.replicate n ((1 : Int), (1 : Int))).map dq] : Sto) = C2 :: P2 :: (R0 ++ [[dq (1, 1)], (List.replicate n ((1 : Int), (1 : Int))).map dq]) from by simp,
    show (C2 :: P2 :: R0 ++ [[dq (1, 1)]] : Sto).length = (R0.length + 1) + 2 from by simp]
  simp only [List.set_cons_zero, List.set_cons_succ]
  have zo : (R0 ++ [[dq (1, 1)], (List.replicate n ((1 : Int), (1 : Int))).map dq])[R0.length + 1]? = some ((List.replicate n ((1 : Int), (1 : Int))).map dq) := by simp
  have k0 := Kp.app R0 [[dq (1, 1)], (List.replicate n ((1 : Int), (1 : Int))).map dq]
  replace za := k0 _ _ za
  replace zb := k0 _ _ zb
  replace zc := k0 _ _ zc
  clear er i0 i1 eo gz q1 k0 e1
  generalize R0 ++ [[dq (1, 1)], (List.replicate n ((1 : Int), (1 : Int))).map dq] = R at za zb zc zo ⊢
  generalize R0.length + 1 = o at zo ⊢
  clear R0
  have wo : Rw β n (List.replicate n ((1 : Int), (1 : Int))) := rw_ones hβ.2
  have zl1 : zl l (List.replicate n ((1 : Int), (1 : Int))) = l := by rw [← wl.len]; exact zl_ones l
  have zl2 : zl r (List.replicate n ((1 : Int), (1 : Int))) = r := by rw [← wr.len]; exact zl_ones r
  generalize List.replicate n ((1 : Int), (1 : Int)) = on at zo wo zl1 zl2
  have Fl := wl.fr hbn
  have Fr' := wr.fr hbn
  have Flr := wl.zz wr hbn
  have Fll := wl.zz wl hbn
  -- total, weighed
  have g : Sg C2 P2 R (C2 :: P2 :: R) := ⟨R, rfl, Kp.refl R⟩
  generalize C2 :: P2 :: R = S at g ⊢
  obtain ⟨G, k1⟩ := a0 (.tup (l.map dq)) (.tup []) _ nm S (total_ok wl.qu Fl (by rw [wl.len]; omega) (by omega) S)
  rw [seq_next (ret_asg ((call4 c_ok (tup_ev rfl (g.at za)) (q_tup0 _ _) (var_ok rfl)).trans k1))]
  simp only [List.set_cons_zero, List.set_cons_succ]
  replace g := g.app G
  clear k1
  generalize S ++ G = S at g ⊢
  obtain ⟨G, k1⟩ := a1 (.tup (l.map dq)) (.tup (r.map dq)) _ (!nm) S (weighed_ok wl wr hbn hβ.1 (by omega) S)
  rw [seq_next (ret_asg ((call4 c_ok (tup_ev rfl (g.at za)) (tup_ev rfl (g.at zb)) (not_v rfl)).trans k1))]
  simp only [List.set_cons_zero, List.set_cons_succ]
  replace g := g.app G
  clear k1
  generalize S ++ G = S at g ⊢
  have s1 := sum_ok (q := res l) wl wo hbn hβ.1 (by omega) (by rw [zl1]; exact Fl.st.1) (g.at za) (g.at zo)
  have s2 := sum_ok (q := res (zl l r)) wl wr hbn hβ.1 (by omega) Flr.st.1 (g.at za) (g.at zb)
  rw [if_no (or_2 (not_b (test_ok ((call3 (var_ok rfl) (var_ok rfl) (var_ok rfl)).trans s1))) (not_b (test_ok ((call3 (var_ok rfl) (var_ok rfl) (var_ok rfl)).trans s2)))) rfl]
  clear s1 s2
  obtain ⟨G, k1⟩ := a0 (.tup (r.map dq)) (.tup []) _ (!nm) S (total_ok wr.qu Fr' (by rw [wr.len]; omega) (by omega) S)
  have s1 := sum_ok (q := res r) wr wo hbn hβ.1 (by omega) (by rw [zl2]; exact Fr'.st.1) ((g.app G).at zb) ((g.app G).at zo)
  rw [if_no (not_b (test_ok ((call3 (var_ok rfl) (var_ok rfl) ((call4 c_ok (tup_ev rfl (g.at zb)) (q_tup0 _ _) (not_v rfl)).trans k1)).trans s1))) rfl]
  replace g := g.app G
  clear s1 k1
  generalize S ++ G = S at g ⊢
  obtain ⟨G, k1⟩ := a1 (.tup (l.map dq)) (.tup (l.map dq)) _ nm S (weighed_ok wl wl hbn hβ.1 (by omega) S)
  have s1 := sum_ok (q := res (zl l l)) wl wl hbn hβ.1 (by omega) Fll.st.1 ((g.app G).at za) ((g.app G).at za)
  rw [if_no (not_b (test_ok ((call3 (var_ok rfl) (var_ok rfl) ((call4 c_ok (tup_ev rfl (g.at za)) (tup_ev rfl (g.at za)) (var_ok rfl)).trans k1)).trans s1))) rfl]
  replace g := g.app G
  clear s1 k1
  generalize S ++ G = S at g ⊢
  -- the rows turned about
  have eR : res (zl r.reverse l.reverse) = res (zl l r) := by rw [zl_reverse (by rw [wl.len, wr.len]), res_reverse, zl_comm]
  obtain ⟨G, k1⟩ := a1 (.tup (r.map dq).reverse) (.tup (l.map dq).reverse) (dq (res (zl l r))) nm (S ++ [(r.map dq).reverse] ++ [(l.map dq).reverse]) (by
    rw [← List.map_reverse, ← List.map_reverse, ← eR]
    exact weighed_ok (rw_rev wr) (rw_rev wl) hbn hβ.1 (by omega) _)
  rw [if_no (test_ok (b_ok ((call4 c_ok (tup_of (rev_ev rfl (g.at zb)) (by simp)) (tup_of (rev_ev rfl ((g.app _).at za)) (by simp)) (var_ok rfl)).trans k1) (var_ok rfl) ne_told)) rfl]
  replace g := ((g.app [(r.map dq).reverse]).app [(l.map dq).reverse]).app G
  clear k1 eR
  generalize S ++ [(r.map dq).reverse] ++ [(l.map dq).reverse] ++ G = S at g ⊢
  -- folded
  have i2 : dIx (.lst (c + 2)) (.int 2) S = some (.int (s : Int), S) := ix_lst (k := 2) (g.at zc) rfl
  have sixth : (eAndT (eTest (eB dEq (eB dIx (eVar 3) (eC (.int 2))) (eC (.int 0)))) (eNotT (eTest (eCall 4 rf__law_folded (aCons (eVar 4) (aCons (eVar 5) (aCons (eB dIx (eVar 7) (eC (.int 1))) (aCons (eB dIx (eVar 8) (eC (.int 1))) aNil))))))))
      [p0, some (.lst 1), some (.bl nm), some (.lst (c + 2)), some (.lst (a + 2)), some (.lst (b + 2)), some (.lst (o + 2)), some (told (dq (res l))), some (told (dq (res (zl l r)))), none] S = .ok false S := by
    by_cases hs : (s : Int) = 0
    · have hs' : β = 8 := by
        rcases k with ⟨-, -, h⟩ | ⟨h, -, -⟩ | ⟨h, -, -⟩ <;> omega
      subst hs'
      have s1 := folded_ok wl wr hn Fl.st.1 Flr.st.1 (g.at za) (g.at zb)
      rw [and_2 (test_ok ((eq_ok (b_ok (var_ok rfl) c_ok i2) c_ok).trans (by rw [decide_eq_true hs]))) (not_b (test_ok ((call4 (var_ok rfl) (var_ok rfl) (b_ok (var_ok rfl) c_ok ix_tup1) (b_ok (var_ok rfl) c_ok ix_tup1)).trans s1)))]
      rfl
    · exact and_f (test_ok ((eq_ok (b_ok (var_ok rfl) c_ok i2) c_ok).trans (by rw [decide_eq_false hs])))
  rw [if_no sixth rfl]
  clear sixth i2
  -- refused
  obtain ⟨Y, rfl, kY⟩ := g
  replace za := kY _ _ za
  replace zb := kY _ _ zb
  obtain ⟨C3, P3, R3, e7, k7, h3⟩ := refused_gen take_is bad_is ask_is wl wr hn (b := nm) h2 (by decide) za zb
  have e7' : rf__law_refused [.lst 1, .lst (a + 2), .lst (b + 2), .bl nm] (C2 :: P2 :: Y) = .ok (.bl true) (C3 :: P3 :: R3) := by
    unfold rf__law_refused runDef ev__law_refused
    exact e7
  rw [if_no (not_b (test_ok ((call4 (var_ok rfl) (var_ok rfl) (var_ok rfl) (var_ok rfl)).trans e7'))) rfl]
  clear e7 e7'
  replace za := k7 _ _ za
  replace zb := k7 _ _ zb
  -- both rows
  rw [seq_next (ret_asg (b_ok (var_ok rfl) (var_ok rfl) (add_lst (show (C3 :: P3 :: R3)[a + 2]? = _ from za) (show (C3 :: P3 :: R3)[b + 2]? = _ from zb) (by simp [wl.len, wr.len]; omega))))]
  rw [← List.map_append, show (C3 :: P3 :: R3 ++ [(l ++ r).map dq] : Sto) = C3 :: P3 :: (R3 ++ [(l ++ r).map dq]) from by simp, show (C3 :: P3 :: R3 : Sto).length = R3.length + 2 from by simp]
  simp only [List.set_cons_zero, List.set_cons_succ]
  have zw : (R3 ++ [(l ++ r).map dq])[R3.length]? = some ((l ++ r).map dq) := by simp
  have k0 := Kp.app R3 [(l ++ r).map dq]
  replace za := k0 _ _ za
  replace zb := k0 _ _ zb
  have lw : (l ++ r).length = n + n := by simp [wl.len, wr.len]
  have qw : ∀ q ∈ l ++ r, Qu q := fun q hq => by
    rcases List.mem_append.mp hq with hq | hq
    · exact wl.qu q hq
    · exact wr.qu q hq
  have bw : Bts (l ++ r) β := fun q hq => by
    rcases List.mem_append.mp hq with hq | hq
    · exact wl.bt q hq
    · exact wr.bt q hq
  clear k0
  generalize R3 ++ [(l ++ r).map dq] = R4 at za zb zw ⊢
  generalize R3.length = w at zw ⊢
  generalize l ++ r = lr at zw lw qw bw
  have g : Sg C3 P3 R4 (C3 :: P3 :: R4) := ⟨R4, rfl, Kp.refl R4⟩
  generalize C3 :: P3 :: R4 = S at g ⊢
  have t9 : eTest (eB dEq (eL dLen (aCons (eVar 9) aNil)) (eC (.int 0))) [p0, some (.lst 1), some (.bl nm), some (.lst (c + 2)), some (.lst (a + 2)), some (.lst (b + 2)), some (.lst (o + 2)), some (told (dq (res l))), some (told (dq (res (zl l r)))), some (.lst (w + 2))] S = .ok (decide ((lr.length : Int) = 0)) S :=
    test_ok (eq_ok ((len_ev (i := 9) rfl (g.at zw)).trans (by rw [List.length_map])) c_ok)
  by_cases h0 : n = 0
  · have : decide ((lr.length : Int) = 0) = true := decide_eq_true (by omega)
    rw [this] at t9
    rw [seq_ret ((if_t t9).trans (ret_ret c_ok))]
    exact ⟨S, rfl⟩
  · have : decide ((lr.length : Int) = 0) = false := decide_eq_false (by omega)
    rw [this] at t9
    rw [if_no t9 rfl]
    clear t9
    have nz : ∀ x : List (Int × Int), 0 < x.length → x ≠ [] := fun x h => by
      intro e
      rw [e] at h
      exact absurd h (by decide)
    obtain ⟨q1, m1, u1, f1, v1⟩ := least_q qw bw hβ.1 (nz _ (by omega)) (by omega)
    obtain ⟨q2, m2, u2, f2, v2⟩ := greatest_q qw bw hβ.1 (nz _ (by omega)) (by omega)
    obtain ⟨q3, m3, u3, f3, v3⟩ := least_q wr.qu wr.bt hβ.1 (nz _ (by rw [wr.len]; omega)) (by rw [wr.len]; omega)
    obtain ⟨q4, m4, u4, f4, v4⟩ := greatest_q wl.qu wl.bt hβ.1 (nz _ (by rw [wl.len]; omega)) (by rw [wl.len]; omega)
    obtain ⟨G, k1⟩ := a2 (.tup (lr.map dq)) (.tup []) _ nm S (f1 S)
    have s1 := end_ok bw hβ.1 u1 m1 (.inl rfl) v1 ((g.app G).at zw)
    rw [if_no (not_b (test_ok ((call3 (var_ok rfl) ((call4 c_ok (tup_ev rfl (g.at zw)) (q_tup0 _ _) (var_ok rfl)).trans k1) c_ok).trans s1))) rfl]
    replace g := g.app G
    clear s1 k1
    generalize S ++ G = S at g ⊢
    obtain ⟨G, k1⟩ := a3 (.tup (lr.map dq)) (.tup []) _ (!nm) S (f2 S)
    have s1 := end_ok bw hβ.1 u2 m2 (.inr rfl) v2 ((g.app G).at zw)
    rw [if_no (not_b (test_ok ((call3 (var_ok rfl) ((call4 c_ok (tup_ev rfl (g.at zw)) (q_tup0 _ _) (not_v rfl)).trans k1) (q_neg1 _ _)).trans s1))) rfl]
    replace g := g.app G
    clear s1 k1
    generalize S ++ G = S at g ⊢
    obtain ⟨G, k1⟩ := a2 (.tup (r.map dq)) (.tup []) _ (!nm) S (f3 S)
    have s1 := end_ok wr.bt hβ.1 u3 m3 (.inl rfl) v3 ((g.app G).at zb)
    rw [if_no (not_b (test_ok ((call3 (var_ok rfl) ((call4 c_ok (tup_ev rfl (g.at zb)) (q_tup0 _ _) (not_v rfl)).trans k1) c_ok).trans s1))) rfl]
    replace g := g.app G
    clear s1 k1
    generalize S ++ G = S at g ⊢
    obtain ⟨G, k1⟩ := a3 (.tup (l.map dq)) (.tup []) _ nm S (f4 S)
    have s1 := end_ok wl.bt hβ.1 u4 m4 (.inr rfl) v4 ((g.app G).at za)
    replace g' := g.app G
    generalize hS : S ++ G = S' at g' s1 k1
    obtain ⟨Y', rfl, kY'⟩ := g'
    obtain ⟨S'', e9⟩ := ordered_ok (N := 511) qw bw hβ.1 (by omega) (by omega) (h3.mono (by decide)) (by decide) (kY' _ _ zw)
    rw [ret_ret (eAnd_ok ((call3 (var_ok rfl) ((call4 c_ok (tup_ev rfl (g.at za)) (q_tup0 _ _) (var_ok rfl)).trans k1) (q_neg1 _ _)).trans s1) ((call2 (var_ok rfl) (var_ok rfl)).trans e9))]
    exact ⟨S'', rfl⟩
theorem all : PySem.Challenge.rw_hungwall_k01_whole_sums_and_orders.Holds := ends fun ns _ hb => law_ok fun z hz => bits_bt (hb z hz)
end LawM
end
set_option maxRecDepth 100000 in
set_option maxHeartbeats 0 in
theorem PySem.Challenge.cw_hungwall_k01_whole_sums_and_orders_holds : PySem.Challenge.rw_hungwall_k01_whole_sums_and_orders.Holds := by
  exact LawM.all
