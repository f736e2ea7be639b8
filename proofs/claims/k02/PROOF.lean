import PyProof.Rows.All
import Wide.All
import OpenK.AllK
import Wide.FinOn
import PySem.Challenge.RW_hungwall_k02_whole_lets_plan
import HandS.ForMost
import HandS.ForExc
import HandS.ExcInit
import HandS.Gcd
import HandS.IsInst
import HandS.Wide
import HandS.Zip
import HandS.Style
import HandS.EndBits
import HandS.TupAny
import HandS.More
import HandS.MakeKw
import HandS.ExcField
import HandS.Defaults
import HandS.HeadEnd
import HandS.HeadHook1
import HandS.HeadHook2
import HandS.HeadHook4
import HandS.Head0
import HandS.Head1
import HandS.Head2
import HandS.Walk
import HandS.SetFor
import HandS.Conv
import KE.GoesEnum
import KE.DatumOrd
import HandS.ExcIs
import KE.KIndexOf
import HandS.Head3
import Lean
section
set_option Elab.async false
set_option linter.all false
set_option maxRecDepth 100000
set_option maxHeartbeats 4000000

/-! MPT: tuples of which it is known that they have no dict of their own. -/
namespace MP
open PySem PySem.Spec PyProof.Rows L2
/-- a tuple without a dict -/
def SqN (K : PySem.W.Frag) (H : Hp) (a : Addr) (xs : List V) : Prop :=
  (∃ o : Obj, o.dict = none ∧ H a = some (.frz o (.tup xs))) ∨
    ∃ (o : Obj) (its : Array Value) (n : Nat), o.dict = none ∧ K.lookup a = some o ∧ o.cls = .type "tuple" ∧ o.data = .seq its n ∧ its.size ≤ sizeLine ∧ Vals xs its.toList
theorem SqN.sq {K : PySem.W.Frag} {H : Hp} {a : Addr} {xs : List V} (h : SqN K H a xs) : SqT K H a xs := by
  rcases h with ⟨o, _, h⟩ | ⟨o, its, n, _, h1, h2, h3, h4, h5⟩
  · exact .inl (.inr ⟨o, h⟩)
  · exact .inr ⟨o, its, n, h1, h2, h3, h4, h5⟩
section
variable {X : Cx} {pins : List (Addr × Obj)} {σ : L2.St} {H : Hp} {s : Shared}
theorem SqN.bare (I : Inv X pins σ H s) {a : Addr} {xs : List V} (h : SqN X.K H a xs) : ∃ o, s.heap.get? a = some o ∧ o.dict = none := by
  rcases h with ⟨o, h1, h2⟩ | ⟨o, its, n, h1, h2, _⟩
  · have ok : ObjOk X.prog X.w H s.heap a (.frz o (.tup xs)) := I.hok a _ h2
    exact ⟨o, ok.1, h1⟩
  · exact ⟨o, I.kIn a o h2, h1⟩
/-- a new tuple is laid down -/
theorem laidN {xs : List V} {its : List Value} {t' : Nat} (I : Inv X pins σ H s) (z : xs.length ≤ sizeLine) (r : Vals xs its) :
    Inv X pins σ (upd H s.heap.objs.size (.frz { cls := .type "tuple", data := .seq its.toArray } (.tup xs))) { s with heap := s.heap.push { cls := .type "tuple", data := .seq its.toArray }, toks := t' } :=
  I.laid (fun b u e => Heap.get?_push_of_some _ e) (Nat.le_refl _) ⟨Heap.get?_push_size _ rfl, z, its, r, IsTup.new _ _⟩
def NewT (Q : VK) (H : Hp) (xs : List V) : Prop := ∀ (p : Addr) (o : Obj), H p = none → o.dict = none → Q (.ref p) (upd H p (.frz o (.tup xs)))
theorem newN {xs : List V} {its : List Value} {t' : Nat} {Q : VK} (I : Inv X pins σ H s) (z : xs.length ≤ sizeLine) (r : Vals xs its) (q : NewT Q H xs) :
    EP X pins σ Q (.ref s.heap.objs.size) { s with heap := s.heap.push { cls := .type "tuple", data := .seq its.toArray }, toks := t' } :=
  ⟨.ref s.heap.objs.size, _, laidN I z r, rfl, q _ _ (I.hok.fresh (Nat.le_refl _)) rfl⟩
def tTupN (t : TA) : TE := fun σ H Q => t σ H fun xs H1 => xs.length ≤ sizeLine ∧ NewT Q H1 xs
theorem pe_tupN {es : List Expr} {t : TA} {pos : Pos} {x1 : Nat} (h : PA X es t) : PE X (.Tuple es x1 pos) (tTupN t) :=
  ⟨fun pins s σ H Q I hq => wpAny_Tuple_spliced (thn (h.run pos pins s σ H _ I hq) fun us s1 ⟨xs, H1, I1, r, z, q⟩ => ⟨by rw [← r.length]; exact z, newN I1 z r q⟩)⟩
theorem call_tupleN : CallR X (.type "tuple") (fun xs H Q => ∃ p ys, xs = [.ref p] ∧ ((SqL X.K H p ys ∧ NewT Q H ys) ∨ (SqT X.K H p ys ∧ Q (.ref p) H))) := by
  intro pins s σ H xs us Q I r h
  obtain ⟨p, ys, rfl, h⟩ := h
  obtain ⟨u, rfl, rx⟩ := vals1 r
  cases rx
  rcases h with ⟨hq, q⟩ | ⟨hq, q⟩
  · obtain ⟨its, r', pl, hz⟩ := I.list hq
    have hn := r'.length
    refine call_tuple_list pl.isList (fun h' kp => ?_) (by simp only [List.size_toArray] <;> omega)
    exact newN (s := { s with heap := h' }) (I.kept (t' := s.toks) kp) hz r' q
  · obtain ⟨its, r', pl, hz⟩ := I.tuple hq
    exact call_tuple_same pl ⟨.ref p, H, I, rfl, q⟩
def rCatN (K : PySem.W.Frag) : R2 := fun x y H Q => ∃ a b xs ys, x = .ref a ∧ y = .ref b ∧ SqT K H a xs ∧ SqT K H b ys ∧ xs.length + ys.length ≤ sizeLine ∧
  (xs = [] → Q (.ref b) H) ∧ (xs ≠ [] → ys = [] → Q (.ref a) H) ∧ (xs ≠ [] → ys ≠ [] → NewT Q H (xs ++ ys))
theorem op_catN : OpR X (binaryOp .Add) (rCatN X.K) := by
  intro pins s σ H x y v u Q I rx ry h
  obtain ⟨a, b, xs, ys, rfl, rfl, ha, hb, hz, q0, q1, q2⟩ := h
  by_cases hx : xs = []
  · exact op_catA pins s σ H _ _ v u Q I rx ry ⟨a, b, xs, ys, rfl, rfl, ha, hb, hz, q0, fun n => absurd hx n, fun n => absurd hx n⟩
  · cases rx
    cases ry
    obtain ⟨its, r1, p1, _⟩ := I.tuple ha
    obtain ⟨its2, r2, p2, _⟩ := I.tuple hb
    refine HT.cat_tup p1 p2 (fun z => hx (r1.nil_iff.mp z)) (fun z => ⟨.ref a, H, I, rfl, q1 hx (r2.nil_iff.mp z)⟩) (fun z => ?_) (by rw [← r1.length, ← r2.length]; exact hz)
    exact newN I (by rw [List.length_append]; exact hz) (r1.append r2) (q2 hx fun w => z (r2.nil_iff.mpr w))
def rSlN (K : PySem.W.Frag) : V → Option Int → Option Int → Hp → VK → Prop := fun x lo hi H Q => ∃ a xs, x = .ref a ∧ SqT K H a xs ∧
  (HT.sIx xs.length 0 lo = 0 ∧ HT.sIx xs.length xs.length hi = xs.length → Q (.ref a) H) ∧ (¬ (HT.sIx xs.length 0 lo = 0 ∧ HT.sIx xs.length xs.length hi = xs.length) → NewT Q H (cutV xs lo hi))
theorem sl_tupN : SlR X (rSlN X.K) := by
  intro pins s σ H x v vl vu lo hi sl Q I rx hs pl pu h
  obtain ⟨a, xs, rfl, hx, q1, q2⟩ := h
  by_cases hw : HT.sIx xs.length 0 lo = 0 ∧ HT.sIx xs.length xs.length hi = xs.length
  · exact sl_tupA pins s σ H _ v vl vu lo hi sl Q I rx hs pl pu ⟨a, xs, rfl, hx, q1, fun n => absurd hw n⟩
  · cases rx
    obtain ⟨its, r, ht, hz⟩ := I.tuple hx
    have hl : its.toArray.size = xs.length := by rw [List.size_toArray]; exact r.length.symm
    refine ⟨"tuple", _, PyProof.Rows.slot_tuple_getitem.lookup, ht.typeIs, ?_⟩
    refine HT.getItem_tuple_cut ht hs pl pu (by rw [hl]; exact hw) ?_ (by rw [hl]; exact hz)
    rw [hl]
    exact newN I (Nat.le_trans (cutV_length xs lo hi) hz) ((r.drop (HT.sIx xs.length 0 lo)).take (HT.sIx xs.length xs.length hi - HT.sIx xs.length 0 lo)) (q2 hw)
end
end MP
end
section
set_option Elab.async false
set_option linter.all false
set_option maxRecDepth 100000
set_option maxHeartbeats 4000000
/-! MP0: data, a store of lists, what represents them in the layer's heap; outcomes. -/
namespace MP
open PySem PySem.Spec PyProof.Rows L2

/-- data: immutable data is written out, a mutable list is a number in the store -/
inductive D where
  | non | bl (b : Bool) | int (i : Int) | str (x : Str)
  | tup (xs : List D)
  | wk (xs : List D)
  | lst (l : Nat)
  | frl (xs : List D)
  | exn (n : Str) (ns : List Str) (ds : List D)

abbrev Sto := List (List D)
abbrev Env := List (Option D)

/-- an outcome -/
inductive Res (α : Type) where
  | ok (a : α) (S : Sto)
  | exc (n : Str) (ns : List Str) (ds : List D) (S : Sto)
  | stuck
namespace Res
def bind {α β : Type} (r : Res α) (f : α → Sto → Res β) : Res β := match r with
  | .ok a S => f a S
  | .exc n ns ds S => .exc n ns ds S
  | .stuck => .stuck
@[simp] theorem bind_ok {α β : Type} {a : α} {S : Sto} {f : α → Sto → Res β} : (Res.ok a S).bind f = f a S := rfl
@[simp] theorem bind_exc {α β : Type} {n : Str} {ns : List Str} {ds : List D} {S : Sto} {f : α → Sto → Res β} : (Res.exc n ns ds S : Res α).bind f = .exc n ns ds S := rfl
@[simp] theorem bind_stuck {α β : Type} {f : α → Sto → Res β} : (Res.stuck : Res α).bind f = .stuck := rfl
end Res

/-- what stands around: the written part, the module's names, the exception that an except suite holds -/
structure Cz where
  K : PySem.W.Frag
  mg : Str → Option Value
  xc : Option (Addr × Value × Addr)

/-- a list that is locked, or written -/
def Frz (K : PySem.W.Frag) (H : Hp) (a : Addr) (xs : List V) : Prop :=
  (∃ o, H a = some (.frz o (.lst xs))) ∨
    ∃ (o : Obj) (its : Array Value) (n : Nat), K.lookup a = some o ∧ o.cls = .type "list" ∧ o.dict = none ∧ o.data = .seq its n ∧ its.size ≤ sizeLine ∧ Vals xs its.toList
theorem Frz.sq {K : PySem.W.Frag} {H : Hp} {a : Addr} {xs : List V} (h : Frz K H a xs) : SqL K H a xs := by
  rcases h with h | h
  · exact .inl (.inr h)
  · exact .inr h

mutual
def RepV (c : Cz) (H : Hp) (φ : List Addr) : D → V → Prop
  | .non, v => v = .non
  | .bl b, v => v = .bl b
  | .int i, v => v = .int i
  | .str x, v => v = .str x
  | .tup ds, v => ∃ a xs, v = .ref a ∧ SqN c.K H a xs ∧ RepL c H φ ds xs
  | .wk ds, v => ∃ a xs, v = .ref a ∧ SqT c.K H a xs ∧ RepL c H φ ds xs
  | .lst l, v => ∃ a, v = .ref a ∧ φ[l]? = some a
  | .frl ds, v => ∃ a xs, v = .ref a ∧ Frz c.K H a xs ∧ RepL c H φ ds xs
  | .exn n ns ds, v => ∃ a cls d vs, v = .ref a ∧ c.xc = some (a, cls, d) ∧ c.mg n = some cls ∧ H d = some (.xd (ns.zip vs)) ∧ ns.length = vs.length ∧ RepL c H φ ds vs
def RepL (c : Cz) (H : Hp) (φ : List Addr) : List D → List V → Prop
  | [], vs => vs = []
  | d :: ds, vs => ∃ v vr, vs = v :: vr ∧ RepV c H φ d v ∧ RepL c H φ ds vr
end

/-- the store's lists stand at φ -/
structure RepS (c : Cz) (H : Hp) (φ : List Addr) (S : Sto) : Prop where
  nd : φ.Nodup
  len : φ.length = S.length
  at_ : ∀ (l : Nat) (xs : List D), S[l]? = some xs → ∃ a vs, φ[l]? = some a ∧ H a = some (.lst vs) ∧ RepL c H φ xs vs

/-- a later heap -/
structure Ext (H : Hp) (φ : List Addr) (H' : Hp) (φ' : List Addr) : Prop where
  pre : φ <+: φ'
  keep : ∀ b o, H b = some o → b ∉ φ → H' b = some o
  new : ∀ b, b ∈ φ' → b ∉ φ → H b = none
theorem Ext.refl (H : Hp) (φ : List Addr) : Ext H φ H φ := ⟨List.prefix_refl _, fun _ _ h _ => h, fun _ h n => absurd h n⟩
theorem Ext.trans {H H1 H2 : Hp} {φ φ1 φ2 : List Addr} (a : Ext H φ H1 φ1) (b : Ext H1 φ1 H2 φ2) : Ext H φ H2 φ2 where
  pre := List.IsPrefix.trans a.pre b.pre
  keep := fun x o h n => b.keep x o (a.keep x o h n) fun m => by
    have := a.new x m n
    rw [h] at this
    cases this
  new := fun x h n => by
    by_cases m : x ∈ φ1
    · exact a.new x m n
    · have e := b.new x h m
      cases q : H x with
      | none => rfl
      | some o =>
        have := a.keep x o q n
        rw [e] at this
        cases this

section
variable {c : Cz} {H H' : Hp} {φ φ' : List Addr} {S : Sto}
theorem RepS.isl (r : RepS c H φ S) {a : Addr} (h : a ∈ φ) : ∃ vs, H a = some (.lst vs) := by
  obtain ⟨l, hl⟩ := List.getElem?_of_mem h
  have hl' : l < S.length := by
    have := (List.getElem?_eq_some_iff.mp hl).1
    rw [← r.len]; exact this
  obtain ⟨a', vs, h1, h2, _⟩ := r.at_ l S[l] (List.getElem?_eq_getElem hl')
  rw [hl] at h1
  cases h1
  exact ⟨vs, h2⟩
/-- what is not a list of the store -/
theorem not_in (hφ : ∀ a, a ∈ φ → ∃ vs, H a = some (.lst vs)) {a : Addr} {o : HO} (h : H a = some o) (n : ∀ vs, o ≠ .lst vs) : a ∉ φ := fun m => by
  obtain ⟨vs, e⟩ := hφ a m
  rw [h] at e
  exact n vs (Option.some.inj e)
theorem SqT.ext {K : PySem.W.Frag} (hφ : ∀ a, a ∈ φ → ∃ vs, H a = some (.lst vs)) (e : Ext H φ H' φ') {a : Addr} {xs : List V} (h : SqT K H a xs) : SqT K H' a xs := by
  rcases h with (h | ⟨o, h⟩) | h
  · exact .inl (.inl (e.keep _ _ h (not_in hφ h (fun _ q => by cases q))))
  · exact .inl (.inr ⟨o, e.keep _ _ h (not_in hφ h (fun _ q => by cases q))⟩)
  · exact .inr h
theorem SqN.ext {K : PySem.W.Frag} (hφ : ∀ a, a ∈ φ → ∃ vs, H a = some (.lst vs)) (e : Ext H φ H' φ') {a : Addr} {xs : List V} (h : SqN K H a xs) : SqN K H' a xs := by
  rcases h with ⟨o, h1, h2⟩ | h
  · exact .inl ⟨o, h1, e.keep _ _ h2 (not_in hφ h2 (fun _ q => by cases q))⟩
  · exact .inr h
theorem Frz.ext {K : PySem.W.Frag} (hφ : ∀ a, a ∈ φ → ∃ vs, H a = some (.lst vs)) (e : Ext H φ H' φ') {a : Addr} {xs : List V} (h : Frz K H a xs) : Frz K H' a xs := by
  rcases h with ⟨o, h⟩ | h
  · exact .inl ⟨o, e.keep _ _ h (not_in hφ h (fun _ q => by cases q))⟩
  · exact .inr h
theorem pre_get {l : Nat} {a : Addr} (p : φ <+: φ') (h : φ[l]? = some a) : φ'[l]? = some a := by
  obtain ⟨t, rfl⟩ := p
  have := (List.getElem?_eq_some_iff.mp h).1
  rw [List.getElem?_append_left this]
  exact h
mutual
theorem RepV.ext (hφ : ∀ a, a ∈ φ → ∃ vs, H a = some (.lst vs)) (e : Ext H φ H' φ') : ∀ (d : D) (v : V), RepV c H φ d v → RepV c H' φ' d v
  | .non, _, h => by unfold RepV at h ⊢; exact h
  | .bl _, _, h => by unfold RepV at h ⊢; exact h
  | .int _, _, h => by unfold RepV at h ⊢; exact h
  | .str _, _, h => by unfold RepV at h ⊢; exact h
  | .tup ds, _, h => by
    unfold RepV at h ⊢
    obtain ⟨a, xs, e1, e2, e3⟩ := h
    exact ⟨a, xs, e1, SqN.ext hφ e e2, RepL.ext hφ e ds xs e3⟩
  | .wk ds, _, h => by
    unfold RepV at h ⊢
    obtain ⟨a, xs, e1, e2, e3⟩ := h
    exact ⟨a, xs, e1, SqT.ext hφ e e2, RepL.ext hφ e ds xs e3⟩
  | .lst l, _, h => by
    unfold RepV at h ⊢
    obtain ⟨a, e1, e2⟩ := h
    exact ⟨a, e1, pre_get e.pre e2⟩
  | .frl ds, _, h => by
    unfold RepV at h ⊢
    obtain ⟨a, xs, e1, e2, e3⟩ := h
    exact ⟨a, xs, e1, Frz.ext hφ e e2, RepL.ext hφ e ds xs e3⟩
  | .exn n ns ds, _, h => by
    unfold RepV at h ⊢
    obtain ⟨a, cls, d, vs, e1, e2, e3, e4, e5, e6⟩ := h
    exact ⟨a, cls, d, vs, e1, e2, e3, e.keep _ _ e4 (not_in hφ e4 (fun _ q => by cases q)), e5, RepL.ext hφ e ds vs e6⟩
theorem RepL.ext (hφ : ∀ a, a ∈ φ → ∃ vs, H a = some (.lst vs)) (e : Ext H φ H' φ') : ∀ (ds : List D) (vs : List V), RepL c H φ ds vs → RepL c H' φ' ds vs
  | [], _, h => by unfold RepL at h ⊢; exact h
  | d :: ds, _, h => by
    unfold RepL at h ⊢
    obtain ⟨v, vr, e1, e2, e3⟩ := h
    exact ⟨v, vr, e1, RepV.ext hφ e d v e2, RepL.ext hφ e ds vr e3⟩
end
theorem RepL.length : ∀ {ds : List D} {vs : List V}, RepL c H φ ds vs → ds.length = vs.length
  | [], _, h => by unfold RepL at h; subst h; rfl
  | d :: ds, _, h => by
    unfold RepL at h
    obtain ⟨v, vr, rfl, _, h3⟩ := h
    simp [RepL.length h3]
theorem RepL.get : ∀ {ds : List D} {vs : List V} {i : Nat} {d : D}, RepL c H φ ds vs → ds[i]? = some d → ∃ v, vs[i]? = some v ∧ RepV c H φ d v
  | [], _, _, _, _, e => by simp at e
  | d :: ds, _, 0, _, h, e => by
    unfold RepL at h
    obtain ⟨v, vr, rfl, h2, _⟩ := h
    simp at e; subst e
    exact ⟨v, rfl, h2⟩
  | d :: ds, _, i + 1, x, h, e => by
    unfold RepL at h
    obtain ⟨v, vr, rfl, _, h3⟩ := h
    obtain ⟨w, h1, h2⟩ := RepL.get (i := i) (d := x) h3 (by simpa using e)
    exact ⟨w, by simpa using h1, h2⟩
theorem RepL.getV : ∀ {ds : List D} {vs : List V} {i : Nat} {v : V}, RepL c H φ ds vs → vs[i]? = some v → ∃ d, ds[i]? = some d ∧ RepV c H φ d v
  | [], _, _, _, h, e => by unfold RepL at h; subst h; simp at e
  | d :: ds, _, 0, _, h, e => by
    unfold RepL at h
    obtain ⟨v, vr, rfl, h2, _⟩ := h
    simp at e; subst e
    exact ⟨d, rfl, h2⟩
  | d :: ds, _, i + 1, x, h, e => by
    unfold RepL at h
    obtain ⟨v, vr, rfl, _, h3⟩ := h
    obtain ⟨w, h1, h2⟩ := RepL.getV (i := i) (v := x) h3 (by simpa using e)
    exact ⟨w, by simpa using h1, h2⟩
theorem RepL.append : ∀ {ds es : List D} {vs us : List V}, RepL c H φ ds vs → RepL c H φ es us → RepL c H φ (ds ++ es) (vs ++ us)
  | [], _, _, _, h, q => by unfold RepL at h; subst h; exact q
  | d :: ds, _, _, _, h, q => by
    unfold RepL at h
    obtain ⟨v, vr, rfl, h2, h3⟩ := h
    show RepL c H φ (d :: (ds ++ _)) (v :: (vr ++ _))
    unfold RepL
    exact ⟨v, _, rfl, h2, RepL.append h3 q⟩
theorem RepL.nil : RepL c H φ [] [] := by unfold RepL; rfl
theorem RepL.cons {d : D} {v : V} {ds : List D} {vs : List V} (h : RepV c H φ d v) (q : RepL c H φ ds vs) : RepL c H φ (d :: ds) (v :: vs) := by unfold RepL; exact ⟨v, vs, rfl, h, q⟩
theorem RepL.take : ∀ (n : Nat) {ds : List D} {vs : List V}, RepL c H φ ds vs → RepL c H φ (ds.take n) (vs.take n)
  | 0, _, _, _ => by simp only [List.take_zero]; exact .nil
  | n + 1, [], _, h => by unfold RepL at h; subst h; simp only [List.take_nil]; exact .nil
  | n + 1, d :: ds, _, h => by
    unfold RepL at h
    obtain ⟨v, vr, rfl, h2, h3⟩ := h
    simp only [List.take_succ_cons]
    exact .cons h2 (RepL.take n h3)
theorem RepL.drop : ∀ (n : Nat) {ds : List D} {vs : List V}, RepL c H φ ds vs → RepL c H φ (ds.drop n) (vs.drop n)
  | 0, _, _, h => h
  | n + 1, [], _, h => by unfold RepL at h; subst h; simp only [List.drop_nil]; exact .nil
  | n + 1, d :: ds, _, h => by
    unfold RepL at h
    obtain ⟨v, vr, rfl, h2, h3⟩ := h
    simp only [List.drop_succ_cons]
    exact RepL.drop n h3
theorem RepL.set : ∀ (n : Nat) {ds : List D} {vs : List V} {d : D} {v : V}, RepL c H φ ds vs → RepV c H φ d v → RepL c H φ (ds.set n d) (vs.set n v)
  | _, [], _, _, _, h, _ => by unfold RepL at h; subst h; exact .nil
  | 0, d :: ds, _, _, _, h, q => by
    unfold RepL at h
    obtain ⟨v, vr, rfl, h2, h3⟩ := h
    exact .cons q h3
  | n + 1, d :: ds, _, _, _, h, q => by
    unfold RepL at h
    obtain ⟨v, vr, rfl, h2, h3⟩ := h
    exact .cons h2 (RepL.set n h3 q)
theorem RepL.reverse : ∀ {ds : List D} {vs : List V}, RepL c H φ ds vs → RepL c H φ ds.reverse vs.reverse
  | [], _, h => by unfold RepL at h; subst h; exact .nil
  | d :: ds, _, h => by
    unfold RepL at h
    obtain ⟨v, vr, rfl, h2, h3⟩ := h
    simp only [List.reverse_cons]
    exact RepL.append (RepL.reverse h3) (.cons h2 .nil)
theorem RepL.eraseIdx : ∀ (n : Nat) {ds : List D} {vs : List V}, RepL c H φ ds vs → RepL c H φ (ds.eraseIdx n) (vs.eraseIdx n)
  | _, [], _, h => by unfold RepL at h; subst h; simp only [List.eraseIdx_nil]; exact .nil
  | 0, d :: ds, _, h => by
    unfold RepL at h
    obtain ⟨v, vr, rfl, h2, h3⟩ := h
    exact h3
  | n + 1, d :: ds, _, h => by
    unfold RepL at h
    obtain ⟨v, vr, rfl, h2, h3⟩ := h
    simp only [List.eraseIdx_cons_succ]
    exact .cons h2 (RepL.eraseIdx n h3)

/-! ### the store changes -/
theorem RepS.ls (r : RepS c H φ S) : ∀ a, a ∈ φ → ∃ vs, H a = some (.lst vs) := fun _ h => r.isl h
/-- other things are laid beside -/
theorem RepS.keep (r : RepS c H φ S) (k : ∀ b o, H b = some o → H' b = some o) : RepS c H' φ S ∧ Ext H φ H' φ := by
  have e : Ext H φ H' φ := ⟨List.prefix_refl _, fun b o h _ => k b o h, fun _ h n => absurd h n⟩
  refine ⟨⟨r.nd, r.len, fun l xs h => ?_⟩, e⟩
  obtain ⟨a, vs, h1, h2, h3⟩ := r.at_ l xs h
  exact ⟨a, vs, h1, k _ _ h2, RepL.ext r.ls e _ _ h3⟩
theorem upd_keep {o : HO} {p : Addr} (hp : H p = none) : ∀ b u, H b = some u → upd H p o b = some u := fun b u h => by
  rw [upd_ne (ne_of_none h hp)]; exact h
/-- a new list -/
theorem RepS.push (r : RepS c H φ S) {p : Addr} {xs : List D} {vs : List V} (hp : H p = none) (hx : RepL c H φ xs vs) : RepS c (upd H p (.lst vs)) (φ ++ [p]) (S ++ [xs]) ∧ Ext H φ (upd H p (.lst vs)) (φ ++ [p]) := by
  have np : p ∉ φ := fun m => by
    obtain ⟨vs, e⟩ := r.isl m
    rw [hp] at e; cases e
  have e : Ext H φ (upd H p (.lst vs)) (φ ++ [p]) := by
    refine ⟨List.prefix_append _ _, fun b o h _ => upd_keep hp b o h, fun b h n => ?_⟩
    rcases List.mem_append.mp h with h | h
    · exact absurd h n
    · simp at h; subst h; exact hp
  refine ⟨⟨?_, by simp [r.len], fun l ys h => ?_⟩, e⟩
  · rw [List.nodup_append]
    refine ⟨r.nd, by simp, fun a ha b hb => ?_⟩
    simp at hb; subst hb
    exact fun q => np (q ▸ ha)
  · by_cases hl : l < S.length
    · rw [List.getElem?_append_left hl] at h
      obtain ⟨a, us, h1, h2, h3⟩ := r.at_ l ys h
      exact ⟨a, us, pre_get e.pre h1, upd_keep hp _ _ h2, RepL.ext r.ls e _ _ h3⟩
    · have hl' : l < (S ++ [xs]).length := (List.getElem?_eq_some_iff.mp h).1
      have el : l = S.length := by simp at hl'; omega
      subst el
      rw [List.getElem?_append_right (Nat.le_refl _)] at h
      simp at h
      subst h
      refine ⟨p, vs, ?_, upd_same, RepL.ext r.ls e _ _ hx⟩
      rw [← r.len, List.getElem?_append_right (Nat.le_refl _)]
      simp
/-- a list is changed -/
theorem RepS.write (r : RepS c H φ S) {l : Nat} {a : Addr} {xs : List D} {vs : List V} (hl : φ[l]? = some a) (hx : RepL c H φ xs vs) : RepS c (upd H a (.lst vs)) φ (S.set l xs) ∧ Ext H φ (upd H a (.lst vs)) φ := by
  have ma : a ∈ φ := List.mem_of_getElem? hl
  have e : Ext H φ (upd H a (.lst vs)) φ := by
    refine ⟨List.prefix_refl _, fun b o h n => ?_, fun _ h n => absurd h n⟩
    rw [upd_ne (fun q => n (by rw [q]; exact ma))]
    exact h
  refine ⟨⟨r.nd, by simp [r.len], fun k ys h => ?_⟩, e⟩
  by_cases hk : l = k
  · subst hk
    have lt : l < S.length := by
      have := (List.getElem?_eq_some_iff.mp hl).1
      rw [r.len] at this; exact this
    rw [List.getElem?_set_self lt] at h
    cases h
    exact ⟨a, vs, hl, upd_same, RepL.ext r.ls e _ _ hx⟩
  · rw [List.getElem?_set_ne hk] at h
    obtain ⟨b, us, h1, h2, h3⟩ := r.at_ k ys h
    refine ⟨b, us, h1, ?_, RepL.ext r.ls e _ _ h3⟩
    rw [upd_ne ?_]
    · exact h2
    · intro q
      subst q
      exact hk (nodup_ix' r.nd hl h1)
where
  nodup_ix' {N : List Addr} (hN : N.Nodup) {i j : Nat} {x : Addr} (a : N[i]? = some x) (b : N[j]? = some x) : i = j := by
    obtain ⟨h1, e1⟩ := List.getElem?_eq_some_iff.mp a
    obtain ⟨h2, e2⟩ := List.getElem?_eq_some_iff.mp b
    exact (List.getElem_inj hN).mp (e1.trans e2.symm)
end
end MP
end
section
set_option Elab.async false
set_option linter.all false
set_option maxRecDepth 100000
set_option maxHeartbeats 4000000
/-! MP1: judgements over data: expressions, tests, arguments; the rules for the layer's constructs. -/
namespace MP
open PySem PySem.Spec PyProof.Rows L2
abbrev St := L2.St

/-- what an outcome asks of what follows -/
def Out {α β : Type} (c : Cz) (H : Hp) (φ : List Addr) (rel : Hp → List Addr → α → β → Prop) (r : Res α) (Q : β → Hp → Prop) (E : XK) : Prop :=
  match r with
  | .ok x S' => ∀ (φ' : List Addr) (H' : Hp) (y : β), Ext H φ H' φ' → RepS c H' φ' S' → rel H' φ' x y → Q y H'
  | .exc n ns ds S' => ∀ (φ' : List Addr) (H' : Hp) (cls : Value) (dx : Addr) (vs : List V), Ext H φ H' φ' → RepS c H' φ' S' → c.mg n = some cls → H' dx = some (.xd (ns.zip vs)) → ns.length = vs.length → RepL c H' φ' ds vs → E cls (some dx) H'
  | .stuck => False
theorem Out.bind {α β γ δ : Type} {c : Cz} {H : Hp} {φ : List Addr} {rel : Hp → List Addr → α → β → Prop} {rel' : Hp → List Addr → γ → δ → Prop} {r : Res α} {f : α → Sto → Res γ} {Q : δ → Hp → Prop} {E : XK}
    (h : Out c H φ rel' (r.bind f) Q E) {R : β → Hp → Prop}
    (k : ∀ x S' φ' H' y, Ext H φ H' φ' → RepS c H' φ' S' → rel H' φ' x y → Out c H' φ' rel' (f x S') Q E → R y H') : Out c H φ rel r R E := by
  cases r with
  | ok x S' =>
    intro φ' H' y e s r
    refine k x S' φ' H' y e s r ?_
    have h : Out c H φ rel' (f x S') Q E := h
    revert h
    cases f x S' with
    | ok z S'' => intro h φ'' H'' w e' s' r'; exact h φ'' H'' w (e.trans e') s' r'
    | exc n ns ds S'' => intro h φ'' H'' cls dx vs e' s'; exact h φ'' H'' cls dx vs (e.trans e') s'
    | stuck => intro h; exact h
  | exc n ns ds S' => exact h
  | stuck => exact h
theorem Out.later {α β : Type} {c : Cz} {H H1 : Hp} {φ φ1 : List Addr} {rel : Hp → List Addr → α → β → Prop} {r : Res α} {Q : β → Hp → Prop} {E : XK} (h : Out c H φ rel r Q E) (e : Ext H φ H1 φ1) : Out c H1 φ1 rel r Q E := by
  cases r with
  | ok x S' => intro φ' H' y e' s r; exact h φ' H' y (e.trans e') s r
  | exc n ns ds S' => intro φ' H' cls dx vs e' s; exact h φ' H' cls dx vs (e.trans e') s
  | stuck => exact h
theorem Out.weak {α β : Type} {c : Cz} {H : Hp} {φ : List Addr} {rel : Hp → List Addr → α → β → Prop} {r : Res α} {Q Q' : β → Hp → Prop} {E E' : XK} (h : Out c H φ rel r Q E) (hQ : ∀ y H', Q y H' → Q' y H') (hE : ∀ a b H', E a b H' → E' a b H') : Out c H φ rel r Q' E' := by
  cases r with
  | ok x S' => intro φ' H' y e s r; exact hQ _ _ (h φ' H' y e s r)
  | exc n ns ds S' => intro φ' H' cls dx vs e s a b c d; exact hE _ _ _ (h φ' H' cls dx vs e s a b c d)
  | stuck => exact h

/-- the frame's values -/
def RepE (c : Cz) (H : Hp) (φ : List Addr) (ρ : Env) (σ : St) : Prop := ρ.length = σ.length ∧ ∀ (i : Nat) (d : D), ρ[i]? = some (some d) → ∃ v, σ[i]? = some (some v) ∧ RepV c H φ d v
theorem RepE.ext {c : Cz} {H H' : Hp} {φ φ' : List Addr} {ρ : Env} {σ : St} {S : Sto} (h : RepE c H φ ρ σ) (s : RepS c H φ S) (e : Ext H φ H' φ') : RepE c H' φ' ρ σ :=
  ⟨h.1, fun i d q => by
    obtain ⟨v, h1, h2⟩ := h.2 i d q
    exact ⟨v, h1, RepV.ext s.ls e _ _ h2⟩⟩
theorem RepE.set {c : Cz} {H : Hp} {φ : List Addr} {ρ : Env} {σ : St} (h : RepE c H φ ρ σ) {i : Nat} {d : D} {v : V} (r : RepV c H φ d v) : RepE c H φ (ρ.set i (some d)) (σ.set i (some v)) := by
  refine ⟨by simp [h.1], fun j e q => ?_⟩
  by_cases hj : i = j
  · subst hj
    by_cases hl : i < ρ.length
    · rw [List.getElem?_set_self hl] at q
      cases q
      exact ⟨v, List.getElem?_set_self (by rw [← h.1]; exact hl), r⟩
    · rw [List.getElem?_eq_none (by simpa using hl)] at q
      cases q
  · rw [List.getElem?_set_ne hj] at q ⊢
    exact h.2 j e q
theorem RepE.unset {c : Cz} {H : Hp} {φ : List Addr} {ρ : Env} {σ : St} (h : RepE c H φ ρ σ) {i : Nat} {o : Option V} : RepE c H φ (ρ.set i none) (σ.set i o) := by
  refine ⟨by simp [h.1], fun j e q => ?_⟩
  by_cases hj : i = j
  · subst hj
    by_cases hl : i < ρ.length
    · rw [List.getElem?_set_self hl] at q
      cases q
    · rw [List.getElem?_eq_none (by simpa using hl)] at q
      cases q
  · rw [List.getElem?_set_ne hj] at q ⊢
    exact h.2 j e q

abbrev Ev := Env → Sto → Res D
abbrev EvB := Env → Sto → Res Bool
abbrev EvA := Env → Sto → Res (List D)
def eqB : Hp → List Addr → Bool → Bool → Prop := fun _ _ a b => a = b

def TEm (c : Cz) (W : WX) (ev : Ev) : TE := fun σ H Q => ∃ φ ρ S, RepE c H φ ρ σ ∧ RepS c H φ S ∧ Out c H φ (RepV c) (ev ρ S) Q (fun cls d H' => W cls d σ H')
def TTm (c : Cz) (W : WX) (ev : EvB) : TT := fun σ H Q => ∃ φ ρ S, RepE c H φ ρ σ ∧ RepS c H φ S ∧ Out c H φ eqB (ev ρ S) Q (fun cls d H' => W cls d σ H')
def TAm (c : Cz) (W : WX) (ev : EvA) : TA := fun σ H Q => ∃ φ ρ S, RepE c H φ ρ σ ∧ RepS c H φ S ∧ Out c H φ (RepL c) (ev ρ S) Q (fun cls d H' => W cls d σ H')

/-- what is known of the context -/
structure Sh (X : Cx) (c : Cz) (W : WX) : Prop where
  kk : c.K = X.K
  mm : c.mg = X.mg
  tk : Takes X W
  ow : PassesOwn (model X.prog X.w) X.A X.env X.xe
  nd : X.N.Nodup

def ME (X : Cx) (c : Cz) (W : WX) (e : Expr) (ev : Ev) : Prop := Sh X c W → PE X e (TEm c W ev)
def MT (X : Cx) (c : Cz) (W : WX) (e : Expr) (ev : EvB) : Prop := Sh X c W → PT X e (TTm c W ev)
def MW (X : Cx) (c : Cz) (W : WX) (e : Expr) (ev : EvB) : Prop := Sh X c W → PW X e (TTm c W ev)
def MA (X : Cx) (c : Cz) (W : WX) (es : List Expr) (ev : EvA) : Prop := Sh X c W → PA X es (TAm c W ev)

theorem PE.imp {X : Cx} {e : Expr} {t t' : TE} (h : PE X e t) (k : ∀ σ H Q, t' σ H Q → t σ H Q) : PE X e t' := ⟨fun pins s σ H Q I q => h.run pins s σ H Q I (k σ H Q q)⟩
theorem PT.imp {X : Cx} {e : Expr} {t t' : TT} (h : PT X e t) (k : ∀ σ H Q, t' σ H Q → t σ H Q) : PT X e t' := ⟨fun pins s σ H Q I q => h.run pins s σ H Q I (k σ H Q q)⟩
theorem PW.imp {X : Cx} {e : Expr} {t t' : TT} (h : PW X e t) (k : ∀ σ H Q, t' σ H Q → t σ H Q) : PW X e t' := ⟨fun wh pins s σ H Q I q => h.run wh pins s σ H Q I (k σ H Q q)⟩
theorem PA.imp {X : Cx} {es : List Expr} {t t' : TA} (h : PA X es t) (k : ∀ σ H Q, t' σ H Q → t σ H Q) : PA X es t' := ⟨fun pos pins s σ H Q I q => h.run pos pins s σ H Q I (k σ H Q q)⟩

/-! ### the evaluators -/
def eVar (i : Nat) : Ev := fun ρ S => match ρ[i]? with
  | some (some d) => .ok d S
  | _ => .stuck
def eC (d : D) : Ev := fun _ S => .ok d S
def lift {α : Type} : Option (α × Sto) → Res α
  | some (d, S) => .ok d S
  | none => .stuck
@[simp] theorem lift_some {α : Type} {d : α} {S : Sto} : lift (some (d, S)) = .ok d S := rfl
@[simp] theorem lift_none {α : Type} : lift (none : Option (α × Sto)) = .stuck := rfl
def eB (g : D → D → Sto → Option (D × Sto)) (a b : Ev) : Ev := fun ρ S => (a ρ S).bind fun x S1 => (b ρ S1).bind fun y S2 => lift (g x y S2)
def eU (g : D → Sto → Option (D × Sto)) (a : Ev) : Ev := fun ρ S => (a ρ S).bind fun x S1 => lift (g x S1)
def eL (g : List D → Sto → Option (D × Sto)) (a : EvA) : Ev := fun ρ S => (a ρ S).bind fun ds S1 => lift (g ds S1)
def boolOf : D → Sto → Res Bool
  | .bl b, S => .ok b S
  | _, _ => .stuck
def eTest (a : Ev) : EvB := fun ρ S => (a ρ S).bind boolOf
def eNotT (a : EvB) : EvB := fun ρ S => (a ρ S).bind fun b S1 => .ok (!b) S1
def eAndT (a b : EvB) : EvB := fun ρ S => (a ρ S).bind fun k S1 => if k = true then b ρ S1 else .ok false S1
def eOrT (a b : EvB) : EvB := fun ρ S => (a ρ S).bind fun k S1 => if k = true then .ok true S1 else b ρ S1
def eNot (a : Ev) : Ev := fun ρ S => (a ρ S).bind fun d S1 => match d with
  | .bl b => .ok (.bl (!b)) S1
  | _ => .stuck
def eAnd (a b : Ev) : Ev := fun ρ S => (a ρ S).bind fun d S1 => match d with
  | .bl k => if k = true then b ρ S1 else .ok (.bl false) S1
  | _ => .stuck
def eOr (a b : Ev) : Ev := fun ρ S => (a ρ S).bind fun d S1 => match d with
  | .bl k => if k = true then .ok (.bl true) S1 else b ρ S1
  | _ => .stuck
def eIf (t : EvB) (a b : Ev) : Ev := fun ρ S => (t ρ S).bind fun k S1 => if k = true then a ρ S1 else b ρ S1
def aNil : EvA := fun _ S => .ok [] S
def aCons (a : Ev) (r : EvA) : EvA := fun ρ S => (a ρ S).bind fun d S1 => (r ρ S1).bind fun ds S2 => .ok (d :: ds) S2
def dTup (ds : List D) (S : Sto) : Option (D × Sto) := if ds.length ≤ 1000 then some (.tup ds, S) else none
def dLst (ds : List D) (S : Sto) : Option (D × Sto) := if ds.length ≤ 1000 then some (.lst S.length, S ++ [ds]) else none
def eTup (a : EvA) : Ev := eL dTup a
def eLst (a : EvA) : Ev := eL dLst a
def eChain (g g' : D → D → Sto → Option (D × Sto)) (a b d : Ev) : Ev := fun ρ S => (a ρ S).bind fun x S1 => (b ρ S1).bind fun y S2 => (lift (g x y S2)).bind fun z S3 => match z with
  | .bl k => if k = true then (d ρ S3).bind fun w S4 => lift (g' y w S4) else .ok (.bl false) S3
  | _ => .stuck

/-- an operation on data -/
def OutO {α β : Type} (c : Cz) (H : Hp) (φ : List Addr) (rel : Hp → List Addr → α → β → Prop) (r : Option (α × Sto)) (Q : β → Hp → Prop) : Prop :=
  match r with
  | some (x, S') => ∀ (φ' : List Addr) (H' : Hp) (y : β), Ext H φ H' φ' → RepS c H' φ' S' → rel H' φ' x y → Q y H'
  | none => False
theorem OutO.of {α β : Type} {c : Cz} {H : Hp} {φ : List Addr} {rel : Hp → List Addr → α → β → Prop} {r : Option (α × Sto)} {Q : β → Hp → Prop} {E : XK} (h : Out c H φ rel (lift r) Q E) : OutO c H φ rel r Q := by
  cases r with
  | none => exact h
  | some p => exact h
def OpD (X : Cx) (c : Cz) (f : Value → Value → Sem Value) (g : D → D → Sto → Option (D × Sto)) : Prop :=
  c.K = X.K → OpR X f fun x y H Q => ∃ φ S d e, RepS c H φ S ∧ RepV c H φ d x ∧ RepV c H φ e y ∧ OutO c H φ (RepV c) (g d e S) Q
def UnD (X : Cx) (c : Cz) (f : Value → Sem Value) (g : D → Sto → Option (D × Sto)) : Prop :=
  c.K = X.K → UnR X f fun x H Q => ∃ φ S d, RepS c H φ S ∧ RepV c H φ d x ∧ OutO c H φ (RepV c) (g d S) Q
def CallD (X : Cx) (c : Cz) (f : Value) (g : List D → Sto → Option (D × Sto)) : Prop :=
  c.K = X.K → CallR X f fun vs H Q => ∃ φ S ds, RepS c H φ S ∧ RepL c H φ ds vs ∧ OutO c H φ (RepV c) (g ds S) Q
def IxD (X : Cx) (c : Cz) (g : D → D → Sto → Option (D × Sto)) : Prop :=
  c.K = X.K → IxR X fun x y H Q => ∃ φ S d e, RepS c H φ S ∧ RepV c H φ d x ∧ RepV c H φ e y ∧ OutO c H φ (RepV c) (g d e S) Q

section
variable {X : Cx} {c : Cz} {W : WX} {a b d : Expr} {ea eb ed : Ev} {pos : Pos}

theorem me_var (i : Nat) {x : Str} (hN : X.N[i]? = some x := by rfl) (hv : Vis X.env.scope x := by first | exact Or.inl rfl | exact Or.inr (Or.inl rfl) | exact Or.inr (Or.inr rfl)) (hd : (x == ("__debug__" : Str)) = false := by decide)
    (hcd : (x == ("__classdict__" : Str)) = false := by decide) : ME X c W (.Name x pos) (eVar i) := fun _ => by
  refine PE.imp (pe_var hN hv hd hcd) fun σ H Q ⟨φ, ρ, S, re, rs, o⟩ => ?_
  unfold eVar at o
  split at o
  · rename_i dd q
    obtain ⟨v, h1, h2⟩ := re.2 i dd q
    exact ⟨v, h1, o φ H v (.refl _ _) rs h2⟩
  · exact o.elim
theorem me_c {e : Expr} {v : V} {dd : D} (h : PE X e (tC v)) (r : ∀ H φ, RepV c H φ dd v) : ME X c W e (eC dd) := fun _ => by
  refine PE.imp h fun σ H Q ⟨φ, ρ, S, re, rs, o⟩ => ?_
  exact o φ H v (.refl _ _) rs (r _ _)
theorem me_int {i : Int} {j : Nat} : ME X c W (.Constant (.int i) j pos) (eC (.int i)) := me_c pe_int fun _ _ => by unfold RepV; rfl
theorem me_bl {i : Bool} {j : Nat} : ME X c W (.Constant (.bool i) j pos) (eC (.bl i)) := me_c pe_bl fun _ _ => by unfold RepV; rfl
theorem me_non {j : Nat} : ME X c W (.Constant .none j pos) (eC .non) := me_c pe_non fun _ _ => by unfold RepV; rfl
theorem me_str {x : Str} {j : Nat} : ME X c W (.Constant (.str x) j pos) (eC (.str x)) := me_c pe_str fun _ _ => by unfold RepV; rfl

/-- two in a row, at the level of the readings -/
theorem two {σ : St} {H : Hp} {Q : VK} {f : D → D → Sto → Res D} {R : V → V → Hp → Prop}
    (h : TEm c W (fun ρ S => (ea ρ S).bind fun x S1 => (eb ρ S1).bind fun y S2 => f x y S2) σ H Q)
    (k : ∀ φ S d e x y H', RepS c H' φ S → RepV c H' φ d x → RepV c H' φ e y → Out c H' φ (RepV c) (f d e S) Q (fun cls d H' => W cls d σ H') → R x y H') :
    TEm c W ea σ H fun x H1 => TEm c W eb σ H1 fun y H2 => R x y H2 := by
  obtain ⟨φ, ρ, S, re, rs, o⟩ := h
  refine ⟨φ, ρ, S, re, rs, Out.bind o fun x S1 φ1 H1 v e1 s1 r1 o1 => ?_⟩
  refine ⟨φ1, ρ, S1, re.ext rs e1, s1, Out.bind o1 fun y S2 φ2 H2 u e2 s2 r2 o2 => ?_⟩
  exact k φ2 S2 x y v u H2 s2 (RepV.ext s1.ls e2 _ _ r1) r2 o2
theorem me_bin {op : Operator} {g : D → D → Sto → Option (D × Sto)} (ho : OpD X c (binaryOp op) g) (ha : ME X c W a ea) (hb : ME X c W b eb) : ME X c W (.BinOp a op b pos) (eB g ea eb) := fun s => by
  refine PE.imp (pe_op (ho s.kk) (ha s) (hb s)) fun σ H Q h => ?_
  exact two h fun φ S d e x y H' s1 r1 r2 o => ⟨φ, S, d, e, s1, r1, r2, OutO.of o⟩
theorem me_cmp {op : CmpOp} {g : D → D → Sto → Option (D × Sto)} (ho : OpD X c (compareOp op) g) (ha : ME X c W a ea) (hb : ME X c W b eb) (hm : behindInMarks op b = false := by first | exact nomark _ | rfl) : ME X c W (.Compare a [op] [b] pos) (eB g ea eb) := fun s => by
  refine PE.imp (pe_cmpR (ho s.kk) (ha s) (hb s) hm) fun σ H Q h => ?_
  exact two h fun φ S d e x y H' s1 r1 r2 o => ⟨φ, S, d, e, s1, r1, r2, OutO.of o⟩
theorem mt_cmp {op : CmpOp} {g : D → D → Sto → Option (D × Sto)} (ho : OpD X c (compareOp op) g) (ha : ME X c W a ea) (hb : ME X c W b eb) (hm : behindInMarks op b = false := by first | exact nomark _ | rfl) : MT X c W (.Compare a [op] [b] pos) (eTest (eB g ea eb)) := fun s => by
  refine PT.imp (pt_cmpR (ho s.kk) (ha s) (hb s) hm) fun σ H Q h => ?_
  obtain ⟨φ, ρ, S, re, rs, o⟩ := h
  have h2 : TEm c W (eB g ea eb) σ H fun x H' => ∃ k, x = .bl k ∧ Q k H' := by
    refine ⟨φ, ρ, S, re, rs, Out.bind o fun x S1 φ1 H1 v e1 s1 r1 o1 => ?_⟩
    cases x <;> first
      | exact False.elim o1
      | (unfold RepV at r1
         exact ⟨_, r1, o1 φ1 H1 _ (.refl _ _) s1 rfl⟩)
  exact two h2 fun φ S d e x y H' s1 r1 r2 o => ⟨φ, S, d, e, s1, r1, r2, OutO.of o⟩
theorem me_un {op : UnaryOp} {g : D → Sto → Option (D × Sto)} (ho : UnD X c (unaryOp op) g) (ha : ME X c W a ea) : ME X c W (.UnaryOp op a pos) (eU g ea) := fun s => by
  refine PE.imp (pe_un (ho s.kk) (ha s)) fun σ H Q ⟨φ, ρ, S, re, rs, o⟩ => ?_
  exact ⟨φ, ρ, S, re, rs, Out.bind o fun x S1 φ1 H1 v e1 s1 r1 o1 => ⟨φ1, S1, x, s1, r1, OutO.of o1⟩⟩
/-! tests -/
theorem mt_val (h : ME X c W a ea) (he : ∀ whole, isTrue a X.env whole = (do let v ← whole; standAt a.pos; holding [v] (truthy v)) := by intro _; rfl) : MT X c W a (eTest ea) := fun s => by
  refine PT.imp (pt_val (h s) he) fun σ H Q ⟨φ, ρ, S, re, rs, o⟩ => ?_
  refine ⟨φ, ρ, S, re, rs, Out.bind o fun x S1 φ1 H1 v e1 s1 r1 o1 => ?_⟩
  cases x <;> first
    | exact False.elim o1
    | (unfold RepV at r1
       exact ⟨_, r1, o1 φ1 H1 _ (.refl _ _) s1 rfl⟩)
variable {ta tb : EvB} {rest : List Expr}
theorem mt_not (h : MT X c W a ta) : MT X c W (.UnaryOp .Not a pos) (eNotT ta) := fun s => by
  refine PT.imp (pt_not (h s)) fun σ H Q ⟨φ, ρ, S, re, rs, o⟩ => ?_
  refine ⟨φ, ρ, S, re, rs, Out.bind o fun x S1 φ1 H1 v e1 s1 r1 o1 => ?_⟩
  unfold eqB at r1
  subst r1
  exact o1 φ1 H1 _ (.refl _ _) s1 rfl
theorem mw_pt (h : MW X c W a ta) : MT X c W a ta := fun s => (h s).pt
theorem mw_and1 (h : MT X c W a ta) : MW X c W (.BoolOp .And [a] pos) ta := fun s => pw_and1 (h s)
theorem mw_or1 (h : MT X c W a ta) : MW X c W (.BoolOp .Or [a] pos) ta := fun s => pw_or1 (h s)
theorem mw_and (ha : MT X c W a ta) (hb : MW X c W (.BoolOp .And (b :: rest) pos) tb) : MW X c W (.BoolOp .And (a :: b :: rest) pos) (eAndT ta tb) := fun s => by
  refine PW.imp (pw_and (ha s) (hb s)) fun σ H Q ⟨φ, ρ, S, re, rs, o⟩ => ?_
  refine ⟨φ, ρ, S, re, rs, Out.bind o fun x S1 φ1 H1 v e1 s1 r1 o1 => ?_⟩
  unfold eqB at r1
  subst r1
  cases x with
  | true => exact iteT ⟨φ1, ρ, S1, re.ext rs e1, s1, o1⟩
  | false => exact iteF (o1 φ1 H1 _ (.refl _ _) s1 rfl)
theorem mw_or (ha : MT X c W a ta) (hb : MW X c W (.BoolOp .Or (b :: rest) pos) tb) : MW X c W (.BoolOp .Or (a :: b :: rest) pos) (eOrT ta tb) := fun s => by
  refine PW.imp (pw_or (ha s) (hb s)) fun σ H Q ⟨φ, ρ, S, re, rs, o⟩ => ?_
  refine ⟨φ, ρ, S, re, rs, Out.bind o fun x S1 φ1 H1 v e1 s1 r1 o1 => ?_⟩
  unfold eqB at r1
  subst r1
  cases x with
  | true => exact iteT (o1 φ1 H1 _ (.refl _ _) s1 rfl)
  | false => exact iteF ⟨φ1, ρ, S1, re.ext rs e1, s1, o1⟩
/-! and, or, not, as values -/
theorem me_one {op : BoolOp} (h : ME X c W a ea) : ME X c W (.BoolOp op [a] pos) ea := fun s => pe_one (h s)
theorem me_and (ha : ME X c W a ea) (hb : ME X c W (.BoolOp .And (b :: rest) pos) eb) : ME X c W (.BoolOp .And (a :: b :: rest) pos) (eAnd ea eb) := fun s => by
  refine PE.imp (pe_and (ha s) (hb s)) fun σ H Q ⟨φ, ρ, S, re, rs, o⟩ => ?_
  refine ⟨φ, ρ, S, re, rs, Out.bind o fun x S1 φ1 H1 v e1 s1 r1 o1 => ?_⟩
  cases x <;> first
    | exact False.elim o1
    | skip
  rename_i k
  unfold RepV at r1
  refine ⟨k, r1, ?_⟩
  cases k with
  | true => exact iteT ⟨φ1, ρ, S1, re.ext rs e1, s1, o1⟩
  | false => exact iteF (o1 φ1 H1 _ (.refl _ _) s1 (by unfold RepV; rfl))
theorem me_or (ha : ME X c W a ea) (hb : ME X c W (.BoolOp .Or (b :: rest) pos) eb) : ME X c W (.BoolOp .Or (a :: b :: rest) pos) (eOr ea eb) := fun s => by
  refine PE.imp (pe_or (ha s) (hb s)) fun σ H Q ⟨φ, ρ, S, re, rs, o⟩ => ?_
  refine ⟨φ, ρ, S, re, rs, Out.bind o fun x S1 φ1 H1 v e1 s1 r1 o1 => ?_⟩
  cases x <;> first
    | exact False.elim o1
    | skip
  rename_i k
  unfold RepV at r1
  refine ⟨k, r1, ?_⟩
  cases k with
  | true => exact iteT (o1 φ1 H1 _ (.refl _ _) s1 (by unfold RepV; rfl))
  | false => exact iteF ⟨φ1, ρ, S1, re.ext rs e1, s1, o1⟩
theorem me_not (ha : ME X c W a ea) : ME X c W (.UnaryOp .Not a pos) (eNot ea) := fun s => by
  refine PE.imp (pe_not (ha s)) fun σ H Q ⟨φ, ρ, S, re, rs, o⟩ => ?_
  refine ⟨φ, ρ, S, re, rs, Out.bind o fun x S1 φ1 H1 v e1 s1 r1 o1 => ?_⟩
  cases x <;> first
    | exact False.elim o1
    | skip
  rename_i k
  unfold RepV at r1
  exact ⟨k, r1, o1 φ1 H1 _ (.refl _ _) s1 (by unfold RepV; rfl)⟩
theorem me_if {t : Expr} (ht : MT X c W t ta) (ha : ME X c W a ea) (hb : ME X c W b eb) : ME X c W (.IfExp t a b pos) (eIf ta ea eb) := fun s => by
  refine PE.imp (pe_ifExp (ht s) (ha s) (hb s)) fun σ H Q ⟨φ, ρ, S, re, rs, o⟩ => ?_
  refine ⟨φ, ρ, S, re, rs, Out.bind o fun x S1 φ1 H1 v e1 s1 r1 o1 => ?_⟩
  unfold eqB at r1
  subst r1
  cases x with
  | true => exact iteT ⟨φ1, ρ, S1, re.ext rs e1, s1, o1⟩
  | false => exact iteF ⟨φ1, ρ, S1, re.ext rs e1, s1, o1⟩
theorem me_chain {op op' : CmpOp} {g g' : D → D → Sto → Option (D × Sto)} (ho : OpD X c (compareOp op) g) (ho' : OpD X c (compareOp op') g') (ha : ME X c W a ea) (hb : ME X c W b eb) (hd : ME X c W d ed)
    (hm : lastMarks [op, op'] [b, d] = false := by with_unfolding_all rfl) : ME X c W (.Compare a [op, op'] [b, d] pos) (eChain g g' ea eb ed) := fun s => by
  refine PE.imp (pe_chain (ho s.kk) (ho' s.kk) (ha s) (hb s) (hd s) hm) fun σ H Q ⟨φ, ρ, S, re, rs, o⟩ => ?_
  refine ⟨φ, ρ, S, re, rs, Out.bind o fun x S1 φ1 H1 v e1 s1 r1 o1 => ?_⟩
  refine ⟨φ1, ρ, S1, re.ext rs e1, s1, Out.bind o1 fun y S2 φ2 H2 u e2 s2 r2 o2 => ?_⟩
  refine ⟨φ2, S2, x, y, s2, RepV.ext s1.ls e2 _ _ r1, r2, OutO.of (Out.bind o2 fun z S3 φ3 H3 w e3 s3 r3 o3 => ?_)⟩
  cases z <;> first
    | exact False.elim o3
    | skip
  rename_i k
  unfold RepV at r3
  refine ⟨k, r3, ?_⟩
  cases k with
  | true =>
    refine iteT ⟨φ3, ρ, S3, (((re.ext rs e1).ext s1 e2).ext s2 e3), s3, ?_⟩
    exact Out.bind o3 fun w' S4 φ4 H4 u' e4 s4 r4 o4 => ⟨φ4, S4, y, w', s4, RepV.ext s3.ls e4 _ _ (RepV.ext s2.ls e3 _ _ r2), r4, OutO.of o4⟩
  | false => exact iteF (o3 φ3 H3 _ (.refl _ _) s3 (by unfold RepV; rfl))
theorem mt_chain {op op' : CmpOp} {g g' : D → D → Sto → Option (D × Sto)} (ho : OpD X c (compareOp op) g) (ho' : OpD X c (compareOp op') g') (ha : ME X c W a ea) (hb : ME X c W b eb) (hd : ME X c W d ed)
    (hm : lastMarks [op, op'] [b, d] = false := by with_unfolding_all rfl) : MT X c W (.Compare a [op, op'] [b, d] pos) (eTest (eChain g g' ea eb ed)) := fun s => by
  refine PT.imp (pt_chain (ho s.kk) (ho' s.kk) (ha s) (hb s) (hd s) hm) fun σ H Q ⟨φ, ρ, S, re, rs, o⟩ => ?_
  have h2 : TEm c W (eChain g g' ea eb ed) σ H fun x H' => ∃ k, x = .bl k ∧ Q k H' := by
    refine ⟨φ, ρ, S, re, rs, Out.bind o fun x S1 φ1 H1 v e1 s1 r1 o1 => ?_⟩
    cases x <;> first
      | exact False.elim o1
      | (unfold RepV at r1
         exact ⟨_, r1, o1 φ1 H1 _ (.refl _ _) s1 rfl⟩)
  obtain ⟨φ, ρ, S, re, rs, o⟩ := h2
  refine ⟨φ, ρ, S, re, rs, Out.bind o fun x S1 φ1 H1 v e1 s1 r1 o1 => ?_⟩
  refine ⟨φ1, ρ, S1, re.ext rs e1, s1, Out.bind o1 fun y S2 φ2 H2 u e2 s2 r2 o2 => ?_⟩
  refine ⟨φ2, S2, x, y, s2, RepV.ext s1.ls e2 _ _ r1, r2, OutO.of (Out.bind o2 fun z S3 φ3 H3 w e3 s3 r3 o3 => ?_)⟩
  cases z <;> first
    | exact False.elim o3
    | skip
  rename_i k
  unfold RepV at r3
  refine ⟨k, r3, ?_⟩
  cases k with
  | true =>
    refine iteT ⟨φ3, ρ, S3, (((re.ext rs e1).ext s1 e2).ext s2 e3), s3, ?_⟩
    exact Out.bind o3 fun w' S4 φ4 H4 u' e4 s4 r4 o4 => ⟨φ4, S4, y, w', s4, RepV.ext s3.ls e4 _ _ (RepV.ext s2.ls e3 _ _ r2), r4, OutO.of o4⟩
  | false => exact iteF (o3 φ3 H3 _ (.refl _ _) s3 (by unfold RepV; rfl))

/-! arguments, displays -/
theorem ma_nil : MA X c W [] aNil := fun _ => by
  refine PA.imp pa_nil fun σ H Q ⟨φ, ρ, S, re, rs, o⟩ => ?_
  exact o φ H [] (.refl _ _) rs .nil
variable {es : List Expr} {ra : EvA}
theorem ma_cons (ha : ME X c W a ea) (hr : MA X c W es ra) (hs : starEach (a :: es) X.env = (false, eval a X.env) :: starEach es X.env := by rfl) : MA X c W (a :: es) (aCons ea ra) := fun s => by
  refine PA.imp (pa_cons (ha s) (hr s) hs) fun σ H Q ⟨φ, ρ, S, re, rs, o⟩ => ?_
  refine ⟨φ, ρ, S, re, rs, Out.bind o fun x S1 φ1 H1 v e1 s1 r1 o1 => ?_⟩
  refine ⟨φ1, ρ, S1, re.ext rs e1, s1, Out.bind o1 fun xs S2 φ2 H2 vs e2 s2 r2 o2 => ?_⟩
  exact o2 φ2 H2 _ (.refl _ _) s2 (.cons (RepV.ext s1.ls e2 _ _ r1) r2)
theorem small1k {n : Nat} (h : n ≤ 1000) : n ≤ sizeLine := Nat.le_trans h (by decide)
theorem me_tup {x1 : Nat} (h : MA X c W es ra) : ME X c W (.Tuple es x1 pos) (eTup ra) := fun s => by
  refine PE.imp (pe_tupN (h s)) fun σ H Q ⟨φ, ρ, S, re, rs, o⟩ => ?_
  refine ⟨φ, ρ, S, re, rs, Out.bind o fun xs S1 φ1 H1 vs e1 s1 r1 o1 => ?_⟩
  unfold dTup at o1
  split at o1
  · rename_i hl
    rw [r1.length] at hl
    refine ⟨small1k hl, fun p ob hp hn => ?_⟩
    obtain ⟨s2, e2⟩ := s1.keep (H' := upd H1 p (.frz ob (.tup vs))) (upd_keep hp)
    refine o1 φ1 _ _ e2 s2 ?_
    unfold RepV
    exact ⟨p, vs, rfl, .inl ⟨ob, hn, upd_same⟩, RepL.ext s1.ls e2 _ _ r1⟩
  · exact o1.elim
theorem me_lst (h : MA X c W es ra) : ME X c W (.List es pos) (eLst ra) := fun s => by
  refine PE.imp (pe_lst (h s)) fun σ H Q ⟨φ, ρ, S, re, rs, o⟩ => ?_
  refine ⟨φ, ρ, S, re, rs, Out.bind o fun xs S1 φ1 H1 vs e1 s1 r1 o1 => ?_⟩
  unfold dLst at o1
  split at o1
  · rename_i hl
    rw [r1.length] at hl
    refine ⟨small1k hl, fun p hp => ?_⟩
    obtain ⟨s2, e2⟩ := s1.push hp r1
    refine o1 _ _ _ e2 s2 ?_
    unfold RepV
    refine ⟨p, rfl, ?_⟩
    rw [← s1.len, List.getElem?_append_right (Nat.le_refl _)]
    simp
  · exact o1.elim
/-! subscripts, calls of what is built in -/
theorem me_ix {g : D → D → Sto → Option (D × Sto)} (ho : IxD X c g) (ha : ME X c W a ea) (hb : ME X c W b eb) (hs : PlainIx b := by exact fun _ _ => rfl) : ME X c W (.Subscript a b pos) (eB g ea eb) := fun s => by
  refine PE.imp (pe_ix (ho s.kk) (ha s) (hb s) hs) fun σ H Q h => ?_
  exact two h fun φ S d e x y H' s1 r1 r2 o => ⟨φ, S, d, e, s1, r1, r2, OutO.of o⟩
variable {x : Str} {id T : String} {g : List D → Sto → Option (D × Sto)} {p : Pos}
theorem me_callB (hc : CallD X c (.builtin id) g) (ha : MA X c W (a :: es) ra) (hm : X.mg x = none) (hg : Gl X x := by rfl) (hv : bootBuiltins x = some (.builtin id) := by decide +kernel) (hn : x ≠ "__name__" := by decide) (hdb : (x == ("__debug__" : Str)) = false := by decide)
    (he : starEach (a :: es) X.env = (false, eval a X.env) :: starEach es X.env := by rfl) (hpl : (backTo pos (starEach es X.env)).any (·.1) = false := by rfl) : ME X c W (.Call (.Name x p) (a :: es) [] pos) (eL g ra) := fun s => by
  refine PE.imp (pe_callB (hc s.kk) hg hm hv (ha s) hn hdb he hpl) fun σ H Q ⟨φ, ρ, S, re, rs, o⟩ => ?_
  exact ⟨φ, ρ, S, re, rs, Out.bind o fun xs S1 φ1 H1 vs e1 s1 r1 o1 => ⟨φ1, S1, xs, s1, r1, OutO.of o1⟩⟩
theorem me_callTy (hc : CallD X c (.type T) g) (ha : MA X c W (a :: es) ra) (hm : X.mg x = none) (hg : Gl X x := by rfl) (hv : bootBuiltins x = some (.type T) := by decide +kernel) (hn : x ≠ "__name__" := by decide) (hdb : (x == ("__debug__" : Str)) = false := by decide)
    (he : starEach (a :: es) X.env = (false, eval a X.env) :: starEach es X.env := by rfl) (hpl : (backTo pos (starEach es X.env)).any (·.1) = false := by rfl) : ME X c W (.Call (.Name x p) (a :: es) [] pos) (eL g ra) := fun s => by
  refine PE.imp (pe_callTy (hc s.kk) hg hm hv (ha s) hn hdb he hpl) fun σ H Q ⟨φ, ρ, S, re, rs, o⟩ => ?_
  exact ⟨φ, ρ, S, re, rs, Out.bind o fun xs S1 φ1 H1 vs e1 s1 r1 o1 => ⟨φ1, S1, xs, s1, r1, OutO.of o1⟩⟩
theorem me_callBf (hc : CallD X c (.builtin id) g) (ha : MA X c W (a :: es) ra) (hm : X.mg x = some (.builtin id)) (hg : Gl X x := by rfl) (hdb : (x == ("__debug__" : Str)) = false := by decide)
    (he : starEach (a :: es) X.env = (false, eval a X.env) :: starEach es X.env := by rfl) (hpl : (backTo pos (starEach es X.env)).any (·.1) = false := by rfl) : ME X c W (.Call (.Name x p) (a :: es) [] pos) (eL g ra) := fun s => by
  refine PE.imp (pe_callBfun (hc s.kk) hg hm (ha s) hdb he hpl) fun σ H Q ⟨φ, ρ, S, re, rs, o⟩ => ?_
  exact ⟨φ, ρ, S, re, rs, Out.bind o fun xs S1 φ1 H1 vs e1 s1 r1 o1 => ⟨φ1, S1, xs, s1, r1, OutO.of o1⟩⟩
end
end MP
end
section
set_option Elab.async false
set_option linter.all false
set_option maxRecDepth 100000
set_option maxHeartbeats 4000000
/-! MP2: statements over data: flows, assignments, if, loops, comprehensions. -/
namespace MP
open PySem PySem.Spec PyProof.Rows L2

inductive Flow where
  | next (ρ : Env) (S : Sto)
  | brk (ρ : Env) (S : Sto)
  | cont (ρ : Env) (S : Sto)
  | ret (d : D) (S : Sto)
  | exc (n : Str) (ns : List Str) (ds : List D) (ρ : Env) (S : Sto)
  | stuck
abbrev Es := Env → Sto → Flow

def OutF (c : Cz) (W : WX) (H : Hp) (φ : List Addr) (f : Flow) (D : Ends) : Prop :=
  match f with
  | .next ρ S => ∀ φ' H' σ', Ext H φ H' φ' → RepS c H' φ' S → RepE c H' φ' ρ σ' → D.nx σ' H'
  | .brk ρ S => ∀ φ' H' σ', Ext H φ H' φ' → RepS c H' φ' S → RepE c H' φ' ρ σ' → D.bk σ' H'
  | .cont ρ S => ∀ φ' H' σ', Ext H φ H' φ' → RepS c H' φ' S → RepE c H' φ' ρ σ' → D.ct σ' H'
  | .ret d S => ∀ φ' H' v, Ext H φ H' φ' → RepS c H' φ' S → RepV c H' φ' d v → D.rt v H'
  | .exc n ns ds ρ S => ∀ φ' H' σ' cls dx vs, Ext H φ H' φ' → RepS c H' φ' S → RepE c H' φ' ρ σ' → c.mg n = some cls → H' dx = some (.xd (ns.zip vs)) → ns.length = vs.length → RepL c H' φ' ds vs → W cls (some dx) σ' H'
  | .stuck => False
theorem OutF.later {c : Cz} {W : WX} {H H1 : Hp} {φ φ1 : List Addr} {f : Flow} {D : Ends} (h : OutF c W H φ f D) (e : Ext H φ H1 φ1) : OutF c W H1 φ1 f D := by
  cases f with
  | next ρ S => intro φ' H' σ' e' s r; exact h φ' H' σ' (e.trans e') s r
  | brk ρ S => intro φ' H' σ' e' s r; exact h φ' H' σ' (e.trans e') s r
  | cont ρ S => intro φ' H' σ' e' s r; exact h φ' H' σ' (e.trans e') s r
  | ret d S => intro φ' H' v e' s r; exact h φ' H' v (e.trans e') s r
  | exc n ns ds ρ S => intro φ' H' σ' cls dx vs e' s r; exact h φ' H' σ' cls dx vs (e.trans e') s r
  | stuck => exact h
theorem OutF.weak {c : Cz} {W : WX} {H : Hp} {φ : List Addr} {f : Flow} {D D' : Ends} (h : OutF c W H φ f D) (hn : ∀ ρ S, f = .next ρ S → ∀ σ H', D.nx σ H' → D'.nx σ H') (hr : ∀ v H', D.rt v H' → D'.rt v H') (hb : ∀ ρ S, f = .brk ρ S → ∀ σ H', D.bk σ H' → D'.bk σ H') (hc : ∀ ρ S, f = .cont ρ S → ∀ σ H', D.ct σ H' → D'.ct σ H') : OutF c W H φ f D' := by
  cases f with
  | next ρ S => intro φ' H' σ' e' s r; exact hn _ _ rfl _ _ (h φ' H' σ' e' s r)
  | brk ρ S => intro φ' H' σ' e' s r; exact hb _ _ rfl _ _ (h φ' H' σ' e' s r)
  | cont ρ S => intro φ' H' σ' e' s r; exact hc _ _ rfl _ _ (h φ' H' σ' e' s r)
  | ret d S => intro φ' H' v e' s r; exact hr _ _ (h φ' H' v e' s r)
  | exc n ns ds ρ S => exact h
  | stuck => exact h

def TSm (c : Cz) (W : WX) (ev : Es) : TS := fun D σ H => ∃ φ ρ S, RepE c H φ ρ σ ∧ RepS c H φ S ∧ OutF c W H φ (ev ρ S) D
def MS (X : Cx) (c : Cz) (W : WX) (st : Stmt) (ev : Es) : Prop := Sh X c W → PS X st (TSm c W ev)
def MSs (X : Cx) (c : Cz) (W : WX) (sts : List Stmt) (ev : Es) : Prop := Sh X c W → PSs X sts (TSm c W ev)
theorem PS.imp {X : Cx} {st : Stmt} {t t' : TS} (h : PS X st t) (k : ∀ D σ H, t' D σ H → t D σ H) : PS X st t' := ⟨fun pins s σ H D I q => h.run pins s σ H D I (k D σ H q)⟩
theorem PSs.imp {X : Cx} {st : List Stmt} {t t' : TS} (h : PSs X st t) (k : ∀ D σ H, t' D σ H → t D σ H) : PSs X st t' := ⟨fun pins s σ H D I q => h.run pins s σ H D I (k D σ H q)⟩

/-! ### evaluators -/
def ofRes {α : Type} (r : Res α) (ρ : Env) (k : α → Sto → Flow) : Flow := match r with
  | .ok a S => k a S
  | .exc n ns ds S => .exc n ns ds ρ S
  | .stuck => .stuck
@[simp] theorem ofRes_ok {α : Type} {a : α} {S : Sto} {ρ : Env} {k : α → Sto → Flow} : ofRes (.ok a S) ρ k = k a S := rfl
@[simp] theorem ofRes_exc {α : Type} {n : Str} {ns : List Str} {ds : List D} {S : Sto} {ρ : Env} {k : α → Sto → Flow} : ofRes (.exc n ns ds S) ρ k = .exc n ns ds ρ S := rfl
@[simp] theorem ofRes_stuck {α : Type} {ρ : Env} {k : α → Sto → Flow} : ofRes (.stuck : Res α) ρ k = .stuck := rfl
def Flow.andThen (f : Flow) (b : Es) : Flow := match f with
  | .next ρ S => b ρ S
  | .brk ρ S => .brk ρ S
  | .cont ρ S => .cont ρ S
  | .ret d S => .ret d S
  | .exc n ns ds ρ S => .exc n ns ds ρ S
  | .stuck => .stuck
@[simp] theorem andThen_next {ρ : Env} {S : Sto} {b : Es} : (Flow.next ρ S).andThen b = b ρ S := rfl
@[simp] theorem andThen_ret {d : D} {S : Sto} {b : Es} : (Flow.ret d S).andThen b = .ret d S := rfl
@[simp] theorem andThen_brk {ρ : Env} {S : Sto} {b : Es} : (Flow.brk ρ S).andThen b = .brk ρ S := rfl
@[simp] theorem andThen_cont {ρ : Env} {S : Sto} {b : Es} : (Flow.cont ρ S).andThen b = .cont ρ S := rfl
@[simp] theorem andThen_exc {n : Str} {ns : List Str} {ds : List D} {ρ : Env} {S : Sto} {b : Es} : (Flow.exc n ns ds ρ S).andThen b = .exc n ns ds ρ S := rfl
@[simp] theorem andThen_stuck {b : Es} : Flow.stuck.andThen b = .stuck := rfl
def sSkip : Es := fun ρ S => .next ρ S
def sSeq (a b : Es) : Es := fun ρ S => (a ρ S).andThen b
def sAsg (i : Nat) (e : Ev) : Es := fun ρ S => ofRes (e ρ S) ρ fun d S1 => .next (ρ.set i (some d)) S1
def sBind (b : D → Env → Option Env) (e : Ev) : Es := fun ρ S => ofRes (e ρ S) ρ fun d S1 => match b d ρ with
  | some ρ' => .next ρ' S1
  | none => .stuck
def sPar (i j : Nat) (a b : Ev) : Es := fun ρ S => ofRes (a ρ S) ρ fun d S1 => ofRes (b ρ S1) ρ fun e S2 => .next ((ρ.set i (some d)).set j (some e)) S2
def sSub (g : D → D → D → Sto → Option Sto) (o i e : Ev) : Es := fun ρ S => ofRes (e ρ S) ρ fun v S1 => ofRes (o ρ S1) ρ fun a S2 => ofRes (i ρ S2) ρ fun k S3 => match g a k v S3 with
  | some S4 => .next ρ S4
  | none => .stuck
def sAug (i : Nat) (g : D → D → Sto → Option (D × Sto)) (e : Ev) : Es := fun ρ S => match ρ[i]? with
  | some (some x) => ofRes (e ρ S) ρ fun y S1 => match g x y S1 with
    | some (z, S2) => .next (ρ.set i (some z)) S2
    | none => .stuck
  | _ => .stuck
def sExpr (e : Ev) : Es := fun ρ S => ofRes (e ρ S) ρ fun _ S1 => .next ρ S1
def sRet (e : Ev) : Es := fun ρ S => ofRes (e ρ S) ρ fun d S1 => .ret d S1
def sRetN : Es := fun _ S => .ret .non S
def sIf (t : EvB) (a b : Es) : Es := fun ρ S => ofRes (t ρ S) ρ fun k S1 => if k = true then a ρ S1 else b ρ S1
def sBrk : Es := fun ρ S => .brk ρ S
def sCont : Es := fun ρ S => .cont ρ S

/-- what a loop walks: its items, and what must stand of the store -/
structure Src where
  xs : List D
  st : Sto → Prop
open Classical in
noncomputable def forLoop (st : Sto → Prop) (b : D → Env → Option Env) (body : Es) : List D → Env → Sto → Flow
  | [], ρ, S => if st S then .next ρ S else .stuck
  | x :: xs, ρ, S => if st S then (match b x ρ with
    | none => .stuck
    | some ρ1 => match body ρ1 S with
      | .next ρ2 S2 => forLoop st b body xs ρ2 S2
      | .cont ρ2 S2 => forLoop st b body xs ρ2 S2
      | .brk ρ2 S2 => .next ρ2 S2
      | .ret d S2 => .ret d S2
      | .exc n ns ds ρ2 S2 => .exc n ns ds ρ2 S2
      | .stuck => .stuck) else .stuck
noncomputable def sFor (src : Env → Sto → Res Src) (b : D → Env → Option Env) (body : Es) : Es := fun ρ S => ofRes (src ρ S) ρ fun z S1 => forLoop z.st b body z.xs ρ S1
def whileLoop (t : EvB) (body : Es) : Nat → Env → Sto → Flow
  | 0, _, _ => .stuck
  | n + 1, ρ, S => ofRes (t ρ S) ρ fun k S1 => if k = true then (match body ρ S1 with
      | .next ρ2 S2 => whileLoop t body n ρ2 S2
      | .cont ρ2 S2 => whileLoop t body n ρ2 S2
      | .brk ρ2 S2 => .next ρ2 S2
      | .ret d S2 => .ret d S2
      | .exc n ns ds ρ2 S2 => .exc n ns ds ρ2 S2
      | .stuck => .stuck) else .next ρ S1
@[irreducible] noncomputable def fuel : Nat := 2 ^ 4000000
noncomputable def sWhile (t : EvB) (body : Es) : Es := fun ρ S => whileLoop t body fuel ρ S

open Classical in
noncomputable def lcLoop (st : Sto → Prop) (b : D → Env → Option Env) (t : EvB) (e : Ev) (ρ : Env) : List D → List D → Sto → Res (List D)
  | [], acc, S => if st S then .ok acc S else .stuck
  | x :: xs, acc, S => if st S then (match b x ρ with
    | none => .stuck
    | some ρ1 => match t ρ1 S with
      | .ok k S1 => if k = true then (match e ρ1 S1 with
          | .ok d S2 => if acc.length < 1000000 then lcLoop st b t e ρ xs (acc ++ [d]) S2 else .stuck
          | .exc .. => .stuck
          | .stuck => .stuck) else lcLoop st b t e ρ xs acc S1
      | .exc .. => .stuck
      | .stuck => .stuck) else .stuck
def wipeE (ρ : Env) : List Nat → Env
  | [] => ρ
  | v :: vs => (wipeE ρ vs).set v none
noncomputable def eLc (src : Env → Sto → Res Src) (b : D → Env → Option Env) (t : EvB) (e : Ev) (vs : List Nat) : Ev := fun ρ S => (src ρ S).bind fun z S1 => (lcLoop z.st b t e (wipeE ρ vs) z.xs [] S1).bind fun acc S2 => .ok (.lst S2.length) (S2 ++ [acc])
def tTrue : EvB := fun _ S => .ok true S

section
variable {X : Cx} {c : Cz} {W : WX} {a b d : Expr} {ea eb ed : Ev} {pos : Pos} {st : Stmt} {rest : List Stmt} {u v : Es} {sa sb : List Stmt}
theorem mss_nil : MSs X c W [] sSkip := fun _ => by
  refine PSs.imp pss_nil fun D σ H ⟨φ, ρ, S, re, rs, o⟩ => ?_
  exact o φ H σ (.refl _ _) rs re
theorem mss_one (h : MS X c W st u) : MSs X c W [st] u := fun s => pss_one (h s)
theorem seq_out {D : Ends} {H : Hp} {φ : List Addr} {f : Flow} (o : OutF c W H φ (f.andThen v) D) : OutF c W H φ f { D with nx := TSm c W v D } := by
  cases f with
  | next ρ S =>
    intro φ' H' σ' e s r
    exact ⟨φ', ρ, S, r, s, OutF.later o e⟩
  | brk ρ S => exact o
  | cont ρ S => exact o
  | ret d S => exact o
  | exc n ns ds ρ S => exact o
  | stuck => exact o
theorem mss_cons (h : MS X c W st u) (r : MSs X c W rest v) : MSs X c W (st :: rest) (sSeq u v) := fun s => by
  refine PSs.imp (pss_cons (h s) (r s)) fun D σ H ⟨φ, ρ, S, re, rs, o⟩ => ?_
  exact ⟨φ, ρ, S, re, rs, seq_out o⟩
theorem ms_pass : MS X c W (.Pass pos) sSkip := fun _ => by
  refine PS.imp ps_pass fun D σ H ⟨φ, ρ, S, re, rs, o⟩ => ?_
  exact o φ H σ (.refl _ _) rs re
theorem ms_break : MS X c W (.Break pos) sBrk := fun _ => by
  refine PS.imp ps_break fun D σ H ⟨φ, ρ, S, re, rs, o⟩ => ?_
  exact o φ H σ (.refl _ _) rs re
theorem ms_continue : MS X c W (.Continue pos) sCont := fun _ => by
  refine PS.imp ps_continue fun D σ H ⟨φ, ρ, S, re, rs, o⟩ => ?_
  exact o φ H σ (.refl _ _) rs re
/-- an outcome, then a flow -/
theorem flow_out {α β : Type} {rel : Hp → List Addr → α → β → Prop} {r : Res α} {ρ : Env} {k : α → Sto → Flow} {D : Ends} {σ : St} {H : Hp} {φ : List Addr} {R : β → Hp → Prop} {S : Sto} (re : RepE c H φ ρ σ) (rs : RepS c H φ S) (o : OutF c W H φ (ofRes r ρ k) D)
    (h : ∀ x S' φ' H' y, Ext H φ H' φ' → RepS c H' φ' S' → rel H' φ' x y → RepE c H' φ' ρ σ → OutF c W H' φ' (k x S') D → R y H') : Out c H φ rel r R fun cls d H' => W cls d σ H' := by
  cases r with
  | ok x S' => intro φ' H' y e s q; exact h x S' φ' H' y e s q (re.ext rs e) (OutF.later o e)
  | exc n ns ds S' => intro φ' H' cls dx vs e s m1 m2 m3 m4; exact o φ' H' σ cls dx vs e s (re.ext rs e) m1 m2 m3 m4
  | stuck => exact o
theorem ms_expr (h : ME X c W a ea) (hs : swapsWith a none pos.line X.env = pure false := by rfl) : MS X c W (.Expr a pos) (sExpr ea) := fun s => by
  refine PS.imp (ps_expr (h s) hs) fun D σ H ⟨φ, ρ, S, re, rs, o⟩ => ?_
  exact ⟨φ, ρ, S, re, rs, flow_out re rs o fun x S' φ' H' y e s' q re' o' => o' φ' H' σ (.refl _ _) s' re'⟩
theorem ms_ret (h : ME X c W a ea) : MS X c W (.Return (some a) pos) (sRet ea) := fun s => by
  refine PS.imp (ps_ret (h s)) fun D σ H ⟨φ, ρ, S, re, rs, o⟩ => ?_
  exact ⟨φ, ρ, S, re, rs, flow_out re rs o fun x S' φ' H' y e s' q re' o' => o' φ' H' y (.refl _ _) s' q⟩
theorem ms_retN : MS X c W (.Return none pos) sRetN := fun _ => by
  refine PS.imp ps_retN fun D σ H ⟨φ, ρ, S, re, rs, o⟩ => ?_
  exact o φ H .non (.refl _ _) rs (by unfold RepV; rfl)
theorem ms_if {t : Expr} {et : EvB} (ht : MT X c W t et) (ha : MSs X c W sa u) (hb : MSs X c W sb v) : MS X c W (.If t sa sb pos) (sIf et u v) := fun s => by
  refine PS.imp (ps_if (ht s) (ha s) (hb s)) fun D σ H ⟨φ, ρ, S, re, rs, o⟩ => ?_
  refine ⟨φ, ρ, S, re, rs, flow_out re rs o fun x S' φ' H' y e s' q re' o' => ?_⟩
  unfold eqB at q
  subst q
  cases x with
  | true => exact iteT ⟨φ', ρ, S', re', s', o'⟩
  | false => exact iteF ⟨φ', ρ, S', re', s', o'⟩
theorem ms_set (i : Nat) {x : Str} {pos' : Pos} (h : ME X c W a ea) (hi : X.N[i]? = some x := by rfl) (hx : Loc X.env.scope x := by first | exact Or.inl rfl | exact Or.inr rfl) (hs : swapsWith a (some (.Name x pos')) pos.line X.env = pure false := by rfl) (hf : X.fn x = true ∨ X.env.scope.names.lookup x = some .local := by first | exact .inl rfl | exact .inr rfl) :
    MS X c W (.Assign [.Name x pos'] a pos) (sAsg i ea) := fun s => by
  refine PS.imp (ps_set s.nd hi hx (h s) hs hf) fun D σ H ⟨φ, ρ, S, re, rs, o⟩ => ?_
  exact ⟨φ, ρ, S, re, rs, flow_out re rs o fun x S' φ' H' y e s' q re' o' => o' φ' H' _ (.refl _ _) s' (re'.set q)⟩

/-! targets -/
/-- the slots vs alone may change -/
def SameBut (vs : List Nat) (σ σ' : St) : Prop := σ'.length = σ.length ∧ ∀ j, j ∉ vs → σ'[j]? = σ[j]?
theorem SameBut.refl (vs : List Nat) (σ : St) : SameBut vs σ σ := ⟨rfl, fun _ _ => rfl⟩
theorem SameBut.trans {vs ws : List Nat} {σ σ' σ'' : St} (a : SameBut vs σ σ') (b : SameBut ws σ' σ'') : SameBut (vs ++ ws) σ σ'' :=
  ⟨b.1.trans a.1, fun j hj => (b.2 j fun m => hj (List.mem_append_right _ m)).trans (a.2 j fun m => hj (List.mem_append_left _ m))⟩
def TGm (c : Cz) (vs : List Nat) (g : D → Env → Option Env) : TG := fun v σ H Q => ∃ φ ρ S d ρ', RepE c H φ ρ σ ∧ RepS c H φ S ∧ RepV c H φ d v ∧ g d ρ = some ρ' ∧ ∀ σ', RepE c H φ ρ' σ' → SameBut vs σ σ' → Q σ' H
def TGsm (c : Cz) (vs : List Nat) (g : List D → Env → Option Env) : TGs := fun us σ H Q => ∃ φ ρ S ds ρ', RepE c H φ ρ σ ∧ RepS c H φ S ∧ RepL c H φ ds us ∧ g ds ρ = some ρ' ∧ ∀ σ', RepE c H φ ρ' σ' → SameBut vs σ σ' → Q σ' H
def MG (X : Cx) (c : Cz) (tg : Expr) (vs : List Nat) (g : D → Env → Option Env) : Prop := c.K = X.K → X.N.Nodup → PG X tg (TGm c vs g)
def MGs (X : Cx) (c : Cz) (tgs : List Expr) (vs : List Nat) (g : List D → Env → Option Env) : Prop := c.K = X.K → X.N.Nodup → PGs X tgs (TGsm c vs g)
theorem PG.imp {e : Expr} {t t' : TG} (h : PG X e t) (k : ∀ v σ H Q, t' v σ H Q → t v σ H Q) : PG X e t' := ⟨fun pins s σ H v u Q I r q => h.run pins s σ H v u Q I r (k v σ H Q q)⟩
theorem PGs.imp {e : List Expr} {t t' : TGs} (h : PGs X e t) (k : ∀ v σ H Q, t' v σ H Q → t v σ H Q) : PGs X e t' := ⟨fun pins s σ H v u Q I r q => h.run pins s σ H v u Q I r (k v σ H Q q)⟩
def bName (i : Nat) : D → Env → Option Env := fun d ρ => some (ρ.set i (some d))
def bNil : List D → Env → Option Env := fun ds ρ => match ds with
  | [] => some ρ
  | _ => none
def bCons (g : D → Env → Option Env) (r : List D → Env → Option Env) : List D → Env → Option Env := fun ds ρ => match ds with
  | d :: ds => (g d ρ).bind (r ds)
  | [] => none
def bTup (n : Nat) (r : List D → Env → Option Env) : D → Env → Option Env := fun d ρ => match d with
  | .tup xs => if xs.length = n then r xs ρ else none
  | .wk xs => if xs.length = n then r xs ρ else none
  | _ => none
theorem mg_name (i : Nat) {x : Str} (hi : X.N[i]? = some x := by rfl) (hx : Loc X.env.scope x := by first | exact Or.inl rfl | exact Or.inr rfl) (hf : X.fn x = true ∨ X.env.scope.names.lookup x = some .local := by first | exact .inl rfl | exact .inr rfl) : MG X c (.Name x pos) [i] (bName i) := fun _ nd => by
  refine PG.imp (pg_name nd hi hx hf) fun v σ H Q ⟨φ, ρ, S, d, ρ', re, rs, r, e, q⟩ => ?_
  cases e
  refine q _ (re.set r) ⟨by simp, fun j hj => ?_⟩
  rw [List.getElem?_set_ne (fun z => hj (by simp [z]))]
theorem mgs_nil : MGs X c [] [] bNil := fun _ _ => by
  refine PGs.imp pgs_nil fun us σ H Q ⟨φ, ρ, S, ds, ρ', re, rs, r, e, q⟩ => ?_
  cases ds with
  | nil =>
    unfold RepL at r
    cases e
    exact ⟨r, q _ re (.refl _ _)⟩
  | cons d ds => cases e
theorem mgs_cons {e : Expr} {es : List Expr} {vs ws : List Nat} {g : D → Env → Option Env} {r : List D → Env → Option Env} (h1 : MG X c e vs g) (h2 : MGs X c es ws r)
    (hs : (assignEach (e :: es) X.env).map (·.2) = assign e X.env :: (assignEach es X.env).map (·.2) := by rfl) : MGs X c (e :: es) (vs ++ ws) (bCons g r) := fun k nd => by
  refine PGs.imp (pgs_cons (h1 k nd) (h2 k nd) hs) fun us σ H Q ⟨φ, ρ, S, ds, ρ', re, rs, rl, e, q⟩ => ?_
  cases ds with
  | nil => cases e
  | cons d ds =>
    unfold RepL at rl
    obtain ⟨v, vr, rfl, r1, r2⟩ := rl
    have e' : (g d ρ).bind (r ds) = some ρ' := e
    cases eg : g d ρ with
    | none => rw [eg] at e'; cases e'
    | some ρ1 =>
      rw [eg] at e'
      exact ⟨v, vr, rfl, φ, ρ, S, d, ρ1, re, rs, r1, eg, fun σ1 re1 sb1 => ⟨φ, ρ1, S, ds, ρ', re1, rs, r2, e', fun σ2 re2 sb2 => q σ2 re2 (sb1.trans sb2)⟩⟩
theorem mg_tup {es : List Expr} {k n : Nat} {vs : List Nat} {r : List D → Env → Option Env} (h : MGs X c es vs r) (hc : X.calm = true := by rfl)
    (hn : (assignEach es X.env).length = n := by rfl) (hst : (assignEach es X.env).findIdx? (·.1) = none := by rfl) : MG X c (.Tuple es k pos) vs (bTup n r) := fun kk nd => by
  refine PG.imp (pg_tup hc (h kk nd) hn hst) fun v σ H Q ⟨φ, ρ, S, d, ρ', re, rs, rv, e, q⟩ => ?_
  have go : ∀ xs : List D, (∃ a ys, v = .ref a ∧ SqT c.K H a ys ∧ RepL c H φ xs ys) → (if xs.length = n then r xs ρ else none) = some ρ' → gTup X.K n (TGsm c vs r) v σ H Q := fun xs w e' => by
    obtain ⟨a, ys, ev, h1, h2⟩ := w
    subst ev
    split at e'
    · rename_i hl
      rw [kk] at h1
      exact ⟨a, ys, rfl, h1, by rw [← h2.length]; exact hl, φ, ρ, S, xs, ρ', re, rs, h2, e', q⟩
    · cases e'
  cases d <;> first
    | (cases e; done)
    | skip
  · rename_i xs
    unfold RepV at rv
    obtain ⟨a, ys, h0, h1, h2⟩ := rv
    exact go xs ⟨a, ys, h0, h1.sq, h2⟩ e
  · rename_i xs
    unfold RepV at rv
    exact go xs rv e
theorem ms_bind {tg : Expr} {vs : List Nat} {g : D → Env → Option Env} (h : ME X c W a ea) (hg : MG X c tg vs g) (hs : swapsWithSole [tg] a pos.line X.env = pure false := by rfl) (hw : swappedStores [tg] a X.env = pure none := by rfl)
    (h1 : (assignEach [tg] X.env).map (·.2) = [assign tg X.env] := by rfl) : MS X c W (.Assign [tg] a pos) (sBind g ea) := fun s => by
  refine PS.imp (ps_asg (h s) (hg s.kk s.nd) hs hw h1) fun D σ H ⟨φ, ρ, S, re, rs, o⟩ => ?_
  refine ⟨φ, ρ, S, re, rs, flow_out re rs o fun x S' φ' H' y e s' q re' o' => ?_⟩
  cases eg : g x ρ with
  | none => rw [eg] at o'; exact o'.elim
  | some ρ' =>
    rw [eg] at o'
    exact ⟨φ', ρ, S', x, ρ', re', s', q, eg, fun σ' re2 _ => o' φ' H' σ' (.refl _ _) s' re2⟩
theorem ms_par (i j : Nat) {x y : Str} {px py pt : Pos} {kt k2 : Nat} {pt2 : Pos} (ha : ME X c W a ea) (hb : ME X c W b eb) (hc : X.calm = true := by rfl) (hi : X.N[i]? = some x := by rfl) (hj : X.N[j]? = some y := by rfl) (hij : i ≠ j := by decide)
    (hx : X.env.scope.names.lookup x = some .local := by rfl) (hy : X.env.scope.names.lookup y = some .local := by rfl) (hsa : starEach [a, b] X.env = (false, eval a X.env) :: starEach [b] X.env := by rfl) (hsb : starEach [b] X.env = (false, eval b X.env) :: starEach [] X.env := by rfl)
    (hw : swappedStores [.Tuple [.Name x px, .Name y py] kt pt] (.Tuple [a, b] k2 pt2) X.env = pure (some [x, y]) := by rfl)
    (hs : swapsWithSole [.Tuple [.Name x px, .Name y py] kt pt] (.Tuple [a, b] k2 pt2) pos.line X.env = pure false := by rfl) :
    MS X c W (.Assign [.Tuple [.Name x px, .Name y py] kt pt] (.Tuple [a, b] k2 pt2) pos) (sPar i j ea eb) := fun s => by
  refine PS.imp (ps_par hc s.nd hi hj hij hx hy (pa_cons (ha s) (pa_cons (hb s) pa_nil hsb) hsa) hw hs) fun D σ H ⟨φ, ρ, S, re, rs, o⟩ => ?_
  refine ⟨φ, ρ, S, re, rs, flow_out re rs o fun x S1 φ1 H1 y e1 s1 r1 re1 o1 => ?_⟩
  refine ⟨φ1, ρ, S1, re1, s1, flow_out re1 s1 o1 fun x2 S2 φ2 H2 y2 e2 s2 r2 re2 o2 => ?_⟩
  refine ⟨y, y2, rfl, o2 φ2 H2 _ (.refl _ _) s2 ((re2.set (RepV.ext s1.ls e2 _ _ r1)).set r2)⟩
/-! o[i] = e -/
def SetD (X : Cx) (c : Cz) (g : D → D → D → Sto → Option Sto) : Prop :=
  c.K = X.K → PSet X fun o i v H Q => ∃ φ S a k d, RepS c H φ S ∧ RepV c H φ a o ∧ RepV c H φ k i ∧ RepV c H φ d v ∧ ∃ S', g a k d S = some S' ∧ ∀ H', Ext H φ H' φ → RepS c H' φ S' → Q H'
theorem ms_sub {o i : Expr} {eo ei : Ev} {g : D → D → D → Sto → Option Sto} {tp : Pos} (hs : SetD X c g) (ha : ME X c W a ea) (ho : ME X c W o eo) (hi : ME X c W i ei)
    (hsw : swapsWithSole [.Subscript o i tp] a pos.line X.env = pure false := by rfl) (hw : swappedStores [.Subscript o i tp] a X.env = pure none := by rfl) (h1 : (assignEach [.Subscript o i tp] X.env).map (·.2) = [assign (.Subscript o i tp) X.env] := by rfl)
    (hb : ∀ v, assign (.Subscript o i tp) X.env v = (do
      let ov ← holding [v] (eval o X.env)
      let iv ← holding [v, ov] (eval i X.env)
      standAt tp
      holding [v, ov, iv] (setItem ov iv v)
      release [v, ov, iv] []) := by intro _; rfl) : MS X c W (.Assign [.Subscript o i tp] a pos) (sSub g eo ei ea) := fun s => by
  refine PS.imp (ps_asg (ha s) (pg_sub (ho s) (hi s) (hs s.kk) hb) hsw hw h1) fun D σ H ⟨φ, ρ, S, re, rs, q⟩ => ?_
  refine ⟨φ, ρ, S, re, rs, flow_out re rs q fun x1 S1 φ1 H1 y1 e1 s1 r1 re1 o1 => ?_⟩
  refine ⟨φ1, ρ, S1, re1, s1, flow_out re1 s1 o1 fun x2 S2 φ2 H2 y2 e2 s2 r2 re2 o2 => ?_⟩
  refine ⟨φ2, ρ, S2, re2, s2, flow_out re2 s2 o2 fun x3 S3 φ3 H3 y3 e3 s3 r3 re3 o3 => ?_⟩
  cases eg : g x2 x3 x1 S3 with
  | none => rw [eg] at o3; exact o3.elim
  | some S4 =>
    rw [eg] at o3
    exact ⟨φ3, S3, x2, x3, x1, s3, RepV.ext s2.ls e3 _ _ r2, r3, RepV.ext s1.ls (e2.trans e3) _ _ r1, S4, eg, fun H' e' s' => o3 φ3 H' σ e' s' (re3.ext s3 e')⟩
/-! name op= e -/
def IpD (X : Cx) (c : Cz) (op : Operator) (g : D → D → Sto → Option (D × Sto)) : Prop :=
  c.K = X.K → PIp X op fun x y H Q => ∃ φ S d e, RepS c H φ S ∧ RepV c H φ d x ∧ RepV c H φ e y ∧ OutO c H φ (RepV c) (g d e S) Q
theorem ms_aug (i : Nat) {x : Str} {op : Operator} {g : D → D → Sto → Option (D × Sto)} {pos' : Pos} (hp : IpD X c op g) (ha : ME X c W a ea) (hi : X.N[i]? = some x := by rfl) (hx : Loc X.env.scope x := by first | exact Or.inl rfl | exact Or.inr rfl) (hf : X.fn x = true ∨ X.env.scope.names.lookup x = some .local := by first | exact .inl rfl | exact .inr rfl) :
    MS X c W (.AugAssign (.Name x pos') op a pos) (sAug i g ea) := fun s => by
  refine PS.imp (ps_aug s.nd hi hx (ha s) (hp s.kk) hf) fun D σ H ⟨φ, ρ, S, re, rs, o⟩ => ?_
  unfold sAug at o
  split at o
  · rename_i dd q
    obtain ⟨v, h1, h2⟩ := re.2 i dd q
    refine ⟨v, h1, φ, ρ, S, re, rs, flow_out re rs o fun x1 S1 φ1 H1 y1 e1 s1 r1 re1 o1 => ?_⟩
    refine ⟨φ1, S1, dd, x1, s1, RepV.ext rs.ls e1 _ _ h2, r1, ?_⟩
    cases eg : g dd x1 S1 with
    | none => rw [eg] at o1; exact o1.elim
    | some p =>
      obtain ⟨z, S2⟩ := p
      rw [eg] at o1
      intro φ2 H2 y2 e2 s2 r2
      exact o1 φ2 H2 _ e2 s2 ((re1.ext s1 e2).set r2)
  · exact o.elim

/-! ### loops -/
def ItOk (c : Cz) (z : Src) (J : It) (H : Hp) (φ : List Addr) : Prop :=
  ∀ (H2 : Hp) (φ2 : List Addr) (S2 : Sto) (i : Nat), Ext H φ H2 φ2 → RepS c H2 φ2 S2 → z.st S2 →
    (∀ x, z.xs[i]? = some x → J.go i H2 ∧ ∀ v H3, J.yld i H2 v H3 → Ext H2 φ2 H3 φ2 ∧ RepS c H3 φ2 S2 ∧ RepV c H3 φ2 x v) ∧ (z.xs.length ≤ i → J.stop i H2)
def TIm (c : Cz) (W : WX) (ev : Env → Sto → Res Src) : TI := fun σ H R => ∃ φ ρ S, RepE c H φ ρ σ ∧ RepS c H φ S ∧ Out c H φ (fun H' φ' z J => ItOk c z J H' φ') (ev ρ S) R (fun cls d H' => W cls d σ H')
def MI (X : Cx) (c : Cz) (W : WX) (tg iter : Expr) (ev : Env → Sto → Res Src) : Prop := Sh X c W → PI X tg iter (TIm c W ev)
theorem PI.imp {tg e : Expr} {t t' : TI} (h : PI X tg e t) (k : ∀ σ H Q, t' σ H Q → t σ H Q) : PI X tg e t' := ⟨fun pins s σ H Q I q => h.run pins s σ H Q I (k σ H Q q)⟩
theorem ms_for {tg iter : Expr} {vs : List Nat} {g : D → Env → Option Env} {src : Env → Sto → Res Src} {body : List Stmt} {eb : Es} (hi : MI X c W tg iter src) (hg : MG X c tg vs g) (hb : MSs X c W body eb) (hc : X.calm = true := by rfl)
    (hs : ∀ x, foldedSetIterable iter X.env x = pure x := by intro _; rfl) : MS X c W (.For tg iter body [] pos) (sFor src g eb) := fun s => by
  refine PS.imp (ps_for s.ow hc (hi s) (hg s.kk s.nd) (hb s) hs) fun D σ H ⟨φ, ρ, S, re, rs, o⟩ => ?_
  refine ⟨φ, ρ, S, re, rs, flow_out re rs o fun z S1 φ1 H1 J e1 s1 it re1 o1 => ?_⟩
  refine ⟨fun i m σ H2 => m = z.xs.length - i ∧ i ≤ z.xs.length ∧ ∃ φ2 ρ2 S2, Ext H1 φ1 H2 φ2 ∧ RepE c H2 φ2 ρ2 σ ∧ RepS c H2 φ2 S2 ∧ OutF c W H2 φ2 (forLoop z.st g eb (z.xs.drop i) ρ2 S2) D,
    ⟨z.xs.length, by simp, Nat.zero_le _, φ1, ρ, S1, .refl _ _, re1, s1, o1⟩, ?_⟩
  rintro i m σ2 H2 ⟨rfl, hle, φ2, ρ2, S2, e2, re2, s2, o2⟩
  by_cases hlt : i < z.xs.length
  · refine .inr ?_
    have hx : z.xs[i]? = some z.xs[i] := List.getElem?_eq_getElem hlt
    rw [List.drop_eq_getElem_cons hlt] at o2
    unfold forLoop at o2
    split at o2
    · rename_i hst
      obtain ⟨go, yl⟩ := (it H2 φ2 S2 i e2 s2 hst).1 _ hx
      split at o2
      · exact o2.elim
      · rename_i ρ3 eg
        refine ⟨go, fun σ' H' => i + 1 ≤ z.xs.length ∧ ∃ φ2 ρ2 S2, Ext H1 φ1 H' φ2 ∧ RepE c H' φ2 ρ2 σ' ∧ RepS c H' φ2 S2 ∧ OutF c W H' φ2 (forLoop z.st g eb (z.xs.drop (i + 1)) ρ2 S2) D,
          fun σ' H' n => ⟨z.xs.length - (i + 1), by omega, rfl, n⟩, fun v H3 y => ?_⟩
        obtain ⟨e3, s3, r3⟩ := yl v H3 y
        refine ⟨φ2, ρ2, S2, _, ρ3, re2.ext s2 e3, s3, r3, eg, fun σ3 re3 _ => ⟨φ2, ρ3, S2, re3, s3, ?_⟩⟩
        have o3 := OutF.later o2 e3
        have e13 := e2.trans e3
        revert o3
        cases eb ρ3 S2 with
        | next ρ4 S4 => intro o3 φ4 H4 σ4 e4 s4 re4; exact ⟨hlt, φ4, ρ4, S4, e13.trans e4, re4, s4, OutF.later o3 e4⟩
        | cont ρ4 S4 => intro o3 φ4 H4 σ4 e4 s4 re4; exact ⟨hlt, φ4, ρ4, S4, e13.trans e4, re4, s4, OutF.later o3 e4⟩
        | brk ρ4 S4 => intro o3; exact o3
        | ret d S4 => intro o3; exact o3
        | exc n ns ds ρ4 S4 => intro o3; exact o3
        | stuck => intro o3; exact o3
    · exact o2.elim
  · refine .inl ?_
    have : z.xs.drop i = [] := List.drop_eq_nil_of_le (by omega)
    rw [this] at o2
    unfold forLoop at o2
    split at o2
    · rename_i hst
      exact ⟨(it H2 φ2 S2 i e2 s2 hst).2 (by omega), o2 φ2 H2 σ2 (.refl _ _) s2 re2⟩
    · exact o2.elim
theorem ms_while {t : Expr} {et : EvB} {body : List Stmt} {eb : Es} (ht : MT X c W t et) (hb : MSs X c W body eb) : MS X c W (.While t body [] pos) (sWhile et eb) := fun s => by
  refine PS.imp (ps_while s.ow (ht s) (hb s)) fun D σ H ⟨φ, ρ, S, re, rs, o⟩ => ?_
  refine ⟨fun m σ H2 => ∃ φ2 ρ2 S2, RepE c H2 φ2 ρ2 σ ∧ RepS c H2 φ2 S2 ∧ OutF c W H2 φ2 (whileLoop et eb m ρ2 S2) D, ⟨fuel, φ, ρ, S, re, rs, o⟩, ?_⟩
  rintro m σ2 H2 ⟨φ2, ρ2, S2, re2, s2, o2⟩
  cases m with
  | zero => exact o2.elim
  | succ m =>
    unfold whileLoop at o2
    refine ⟨φ2, ρ2, S2, re2, s2, flow_out re2 s2 o2 fun k S3 φ3 H3 y e3 s3 q re3 o3 => ?_⟩
    unfold eqB at q
    subst q
    cases k with
    | true =>
      refine iteT ⟨fun σ' H' => ∃ φ2 ρ2 S2, RepE c H' φ2 ρ2 σ' ∧ RepS c H' φ2 S2 ∧ OutF c W H' φ2 (whileLoop et eb m ρ2 S2) D, fun σ' H' n => ⟨m, Nat.lt_succ_self m, n⟩, φ3, ρ2, S3, re3, s3, ?_⟩
      rw [if_pos rfl] at o3
      revert o3
      cases eb ρ2 S3 with
      | next ρ4 S4 => intro o3 φ4 H4 σ4 e4 s4 re4; exact ⟨φ4, ρ4, S4, re4, s4, OutF.later o3 e4⟩
      | cont ρ4 S4 => intro o3 φ4 H4 σ4 e4 s4 re4; exact ⟨φ4, ρ4, S4, re4, s4, OutF.later o3 e4⟩
      | brk ρ4 S4 => intro o3; exact o3
      | ret d S4 => intro o3; exact o3
      | exc n ns ds ρ4 S4 => intro o3; exact o3
      | stuck => intro o3; exact o3
    | false => exact iteF (o3 φ3 H3 σ2 (.refl _ _) s3 re3)

/-! what is walked -/
def srcOf (d : D) (S : Sto) : Option Src := match d with
  | .lst l => (S[l]?).map fun xs => ⟨xs, fun S' => S'[l]? = some xs⟩
  | .tup xs => some ⟨xs, fun _ => True⟩
  | .frl xs => some ⟨xs, fun _ => True⟩
  | _ => none
def iSeq (a : Ev) : Env → Sto → Res Src := fun ρ S => (a ρ S).bind fun d S1 => match srcOf d S1 with
  | some z => .ok z S1
  | none => .stuck
end
end MP
end
section
set_option Elab.async false
set_option linter.all false
set_option maxRecDepth 100000
set_option maxHeartbeats 4000000
/-! MP3: what is walked, comprehensions, calls of defs, defs, errors raised and caught. -/
namespace MP
open PySem PySem.Spec PyProof.Rows L2

section
variable {X : Cx} {c : Cz} {W : WX} {a b d : Expr} {ea eb ed : Ev} {pos : Pos} {st : Stmt} {rest : List Stmt} {u v : Es} {sa sb : List Stmt}
variable {tg : Expr}
/-- a list or a tuple, walked -/
def iEither (K : PySem.W.Frag) (tl : TE) : TI := fun σ H R => tl σ H fun x H1 => ∃ a, x = .ref a ∧ ((∃ xs, SqL K H1 a xs ∧ R (Itl K a) H1) ∨ (∃ xs, SqT K H1 a xs ∧ R (Itt K a) H1))
theorem pi_either {l : Expr} {tl : TE} (hl : PE X l tl) : PI X tg l (iEither X.K tl) := by
  constructor
  intro pins s σ H R I h
  apply thn (hl.run pins s σ H _ I h)
  rintro v s1 ⟨x, H1, I1, r1, a, rfl, q⟩
  cases r1
  have fresh : ∀ b ∈ [s1.heap.objs.size], FpOk X pins H1 b := fun b hb => by
    have eb : b = s1.heap.objs.size := by simpa using hb
    subst eb
    exact I1.fpOk (Nat.le_refl _) (I1.hok.fresh (Nat.le_refl _))
  rcases q with ⟨xs, hq, q⟩ | ⟨xs, hq, q⟩
  · obtain ⟨its, rv, pl, hz⟩ := I1.list hq
    apply wpAny_pyIter_list pl.isList
    exact ⟨s1.heap.objs.size, [s1.heap.objs.size], _, _, H1, rfl, I1.kept (t' := s1.toks) fun b o z => Heap.get?_push_of_some _ z, turn_list a _, ⟨_, Heap.get?_push_size _ rfl, rfl, rfl⟩, fresh, q⟩
  · obtain ⟨its, rv, pl, hz⟩ := I1.tuple hq
    apply wpAny_pyIter_tuple (show s1.heap.IsTuple a its.toArray from pl)
    exact ⟨s1.heap.objs.size, [s1.heap.objs.size], _, _, H1, rfl, I1.kept (t' := s1.toks) fun b o z => Heap.get?_push_of_some _ z, turn_tuple a _, ⟨_, Heap.get?_push_size _ rfl, rfl, rfl⟩, fresh, q⟩
theorem itl_ok {z : Src} {a : Addr} {H : Hp} {φ : List Addr} (h : ∀ H2 φ2 S2, Ext H φ H2 φ2 → RepS c H2 φ2 S2 → z.st S2 → ∃ us, SqL c.K H2 a us ∧ RepL c H2 φ2 z.xs us) : ItOk c z (Itl c.K a) H φ := by
  intro H2 φ2 S2 i e s hst
  obtain ⟨us, sq, rl⟩ := h H2 φ2 S2 e s hst
  refine ⟨fun x hx => ?_, fun hl => ⟨us, sq, by rw [← rl.length]; exact hl⟩⟩
  obtain ⟨v, hv, rv⟩ := rl.get hx
  refine ⟨⟨us, v, sq, hv⟩, fun v' H3 ⟨e3, y⟩ => ?_⟩
  subst e3
  have := y us sq
  rw [hv] at this
  cases this
  exact ⟨.refl _ _, s, rv⟩
theorem itt_ok {z : Src} {a : Addr} {H : Hp} {φ : List Addr} (h : ∀ H2 φ2 S2, Ext H φ H2 φ2 → RepS c H2 φ2 S2 → z.st S2 → ∃ us, SqT c.K H2 a us ∧ RepL c H2 φ2 z.xs us) : ItOk c z (Itt c.K a) H φ := by
  intro H2 φ2 S2 i e s hst
  obtain ⟨us, sq, rl⟩ := h H2 φ2 S2 e s hst
  refine ⟨fun x hx => ?_, fun hl => ⟨us, sq, by rw [← rl.length]; exact hl⟩⟩
  obtain ⟨v, hv, rv⟩ := rl.get hx
  refine ⟨⟨us, v, sq, hv⟩, fun v' H3 ⟨e3, y⟩ => ?_⟩
  subst e3
  have := y us sq
  rw [hv] at this
  cases this
  exact ⟨.refl _ _, s, rv⟩
/-- what stands behind a value that is walked -/
theorem src_at {d : D} {v : V} {z : Src} {H : Hp} {φ : List Addr} {S : Sto} (rs : RepS c H φ S) (r : RepV c H φ d v) (e : srcOf d S = some z) :
    ∃ a, v = .ref a ∧ ((∃ us, SqL c.K H a us ∧ RepL c H φ z.xs us ∧ (∀ H2 φ2 S2, Ext H φ H2 φ2 → RepS c H2 φ2 S2 → z.st S2 → ∃ us, SqL c.K H2 a us ∧ RepL c H2 φ2 z.xs us)) ∨
      (∃ us, SqT c.K H a us ∧ RepL c H φ z.xs us ∧ (∀ H2 φ2 S2, Ext H φ H2 φ2 → RepS c H2 φ2 S2 → z.st S2 → ∃ us, SqT c.K H2 a us ∧ RepL c H2 φ2 z.xs us))) := by
  cases d <;> first
    | (cases e; done)
    | skip
  · -- a tuple
    rename_i xs
    cases e
    unfold RepV at r
    obtain ⟨a, us, rfl, sq, rl⟩ := r
    exact ⟨a, rfl, .inr ⟨us, sq.sq, rl, fun H2 φ2 S2 e s _ => ⟨us, SqT.ext rs.ls e sq.sq, RepL.ext rs.ls e _ _ rl⟩⟩⟩
  · rename_i l
    unfold RepV at r
    obtain ⟨a, rfl, hl⟩ := r
    have e : (S[l]?).map (fun xs => (⟨xs, fun S' => S'[l]? = some xs⟩ : Src)) = some z := e
    cases q : S[l]? with
    | none => rw [q] at e; cases e
    | some xs =>
      rw [q] at e
      cases e
      obtain ⟨a', us, h1, h2, h3⟩ := rs.at_ l xs q
      rw [hl] at h1
      cases h1
      refine ⟨a, rfl, .inl ⟨us, SqL.of h2, h3, fun H2 φ2 S2 e s hst => ?_⟩⟩
      obtain ⟨a2, us2, g1, g2, g3⟩ := s.at_ l xs hst
      rw [pre_get e.pre hl] at g1
      cases g1
      exact ⟨us2, SqL.of g2, g3⟩
  · rename_i xs
    cases e
    unfold RepV at r
    obtain ⟨a, us, rfl, sq, rl⟩ := r
    exact ⟨a, rfl, .inl ⟨us, sq.sq, rl, fun H2 φ2 S2 e s _ => ⟨us, (Frz.ext rs.ls e sq).sq, RepL.ext rs.ls e _ _ rl⟩⟩⟩
theorem mi_seq (h : ME X c W a ea) : MI X c W tg a (iSeq ea) := fun s => by
  refine PI.imp (pi_either (h s)) fun σ H R ⟨φ, ρ, S, re, rs, o⟩ => ?_
  refine ⟨φ, ρ, S, re, rs, Out.bind o fun x S1 φ1 H1 v e1 s1 r1 o1 => ?_⟩
  cases eq : srcOf x S1 with
  | none => rw [eq] at o1; exact o1.elim
  | some z =>
    rw [eq] at o1
    obtain ⟨a', rfl, q⟩ := src_at s1 r1 eq
    rw [← s.kk]
    refine ⟨a', rfl, ?_⟩
    rcases q with ⟨us, sq, rl, k⟩ | ⟨us, sq, rl, k⟩
    · exact .inl ⟨us, sq, o1 φ1 H1 _ (.refl _ _) s1 (itl_ok k)⟩
    · exact .inr ⟨us, sq, o1 φ1 H1 _ (.refl _ _) s1 (itt_ok k)⟩
/-- range(n), range(a, b) -/
def rngL (lo : Int) (n : Nat) : List D := (List.range n).map fun (k : Nat) => D.int (lo + (k : Int))
theorem rngL_get {lo : Int} {n i : Nat} {x : D} (h : (rngL lo n)[i]? = some x) : i < n ∧ x = .int (lo + i) := by
  unfold rngL at h
  rw [List.getElem?_map] at h
  by_cases hi : i < n
  · rw [List.getElem?_range hi] at h
    cases h
    exact ⟨hi, rfl⟩
  · rw [List.getElem?_eq_none (by simpa using hi)] at h
    cases h
theorem rngL_length (lo : Int) (n : Nat) : (rngL lo n).length = n := by unfold rngL; simp
def rng1 (ds : List D) (S : Sto) : Res Src := match ds with
  | [.int j] => if j < 2 ^ 62 ∧ -(2 ^ 62) ≤ j then .ok ⟨rngL 0 j.toNat, fun _ => True⟩ S else .stuck
  | _ => .stuck
def rng2 (ds : List D) (S : Sto) : Res Src := match ds with
  | [.int i, .int j] => if (i < 2 ^ 62 ∧ -(2 ^ 62) ≤ i) ∧ j < 2 ^ 62 ∧ -(2 ^ 62) ≤ j then .ok ⟨rngL i (j - i).toNat, fun _ => True⟩ S else .stuck
  | _ => .stuck
def iRange (f : List D → Sto → Res Src) (ra : EvA) : Env → Sto → Res Src := fun ρ S => (ra ρ S).bind f
theorem itr_ok {lo : Int} {n : Nat} {H : Hp} {φ : List Addr} : ItOk c ⟨rngL lo n, fun _ => True⟩ (Itr lo n) H φ := by
  intro H2 φ2 S2 i e s _
  refine ⟨fun x hx => ?_, fun hl => by rw [rngL_length] at hl; exact hl⟩
  obtain ⟨hi, rfl⟩ := rngL_get hx
  refine ⟨hi, fun v H3 ⟨e3, ev⟩ => ?_⟩
  subst e3 ev
  exact ⟨.refl _ _, s, by unfold RepV; rfl⟩
variable {es : List Expr} {ra : EvA}
theorem mi_range1 {p : Pos} (h : MA X c W [a] ra) (hm : X.mg "range" = none) (hg : Gl X "range" := by rfl) (hs : starEach [a] X.env = [(false, eval a X.env)] := by rfl) : MI X c W tg (.Call (.Name "range" p) [a] [] pos) (iRange rng1 ra) := fun s => by
  refine PI.imp (pi_range1 hg hm (h s) hs) fun σ H R ⟨φ, ρ, S, re, rs, o⟩ => ?_
  refine ⟨φ, ρ, S, re, rs, Out.bind o fun x S1 φ1 H1 v e1 s1 r1 o1 => ?_⟩
  unfold rng1 at o1
  split at o1
  · rename_i j
    split at o1
    · rename_i hj
      unfold RepL at r1
      obtain ⟨v1, vr, rfl, r2, r3⟩ := r1
      unfold RepV at r2
      unfold RepL at r3
      subst r2 r3
      exact ⟨j, rfl, hj.2, hj.1, o1 φ1 H1 _ (.refl _ _) s1 itr_ok⟩
    · exact o1.elim
  · exact o1.elim
theorem mi_range2 {p : Pos} (h : MA X c W [a, b] ra) (hm : X.mg "range" = none) (hg : Gl X "range" := by rfl) (hs : starEach [a, b] X.env = [(false, eval a X.env), (false, eval b X.env)] := by rfl) (hs2 : starEach [b] X.env = [(false, eval b X.env)] := by rfl) :
    MI X c W tg (.Call (.Name "range" p) [a, b] [] pos) (iRange rng2 ra) := fun s => by
  refine PI.imp (pi_range2 hg hm (h s) hs hs2) fun σ H R ⟨φ, ρ, S, re, rs, o⟩ => ?_
  refine ⟨φ, ρ, S, re, rs, Out.bind o fun x S1 φ1 H1 v e1 s1 r1 o1 => ?_⟩
  unfold rng2 at o1
  split at o1
  · rename_i i j
    split at o1
    · rename_i hj
      unfold RepL at r1
      obtain ⟨v1, vr, rfl, r2, r3⟩ := r1
      unfold RepL at r3
      obtain ⟨v2, vr2, rfl, r4, r5⟩ := r3
      unfold RepV at r2 r4
      unfold RepL at r5
      subst r2 r4 r5
      exact ⟨i, j, rfl, ⟨hj.1.2, hj.1.1, hj.2.2, hj.2.1⟩, o1 φ1 H1 _ (.refl _ _) s1 itr_ok⟩
    · exact o1.elim
  · exact o1.elim
/-- zip(a, b) of two lists, of two tuples -/
def zipD : List D → List D → List D
  | x :: xs, y :: ys => .wk [x, y] :: zipD xs ys
  | _, _ => []
theorem zipD_length : ∀ xs ys : List D, (zipD xs ys).length = min xs.length ys.length
  | [], ys => by unfold zipD; simp
  | x :: xs, [] => by unfold zipD; simp
  | x :: xs, y :: ys => by unfold zipD; simp [zipD_length xs ys, Nat.succ_min_succ]
theorem zipD_get : ∀ {xs ys : List D} {i : Nat} {t : D}, (zipD xs ys)[i]? = some t → ∃ x y, t = .wk [x, y] ∧ xs[i]? = some x ∧ ys[i]? = some y
  | [], ys, i, t, h => by unfold zipD at h; simp at h
  | x :: xs, [], i, t, h => by unfold zipD at h; simp at h
  | x :: xs, y :: ys, 0, t, h => by unfold zipD at h; simp at h; exact ⟨x, y, h.symm, rfl, rfl⟩
  | x :: xs, y :: ys, i + 1, t, h => by
    unfold zipD at h
    obtain ⟨x', y', e, h1, h2⟩ := zipD_get (xs := xs) (ys := ys) (i := i) (t := t) (by simpa using h)
    exact ⟨x', y', e, by simpa using h1, by simpa using h2⟩
def isTup : D → Bool
  | .tup _ => true
  | _ => false
def zipS (ds : List D) (S : Sto) : Res Src := match ds with
  | [x, y] => match srcOf x S, srcOf y S with
    | some z1, some z2 => if isTup x = isTup y then .ok ⟨zipD z1.xs z2.xs, fun S' => z1.st S' ∧ z2.st S'⟩ S else .stuck
    | _, _ => .stuck
  | _ => .stuck
theorem src_tup {d : D} {v : V} {z : Src} {H : Hp} {φ : List Addr} {S : Sto} (rs : RepS c H φ S) (r : RepV c H φ d v) (e : srcOf d S = some z) :
    ∃ a, v = .ref a ∧ ((isTup d = false ∧ ∃ us, SqL c.K H a us ∧ RepL c H φ z.xs us ∧ (∀ H2 φ2 S2, Ext H φ H2 φ2 → RepS c H2 φ2 S2 → z.st S2 → ∃ us, SqL c.K H2 a us ∧ RepL c H2 φ2 z.xs us)) ∨
      (isTup d = true ∧ ∃ us, SqT c.K H a us ∧ RepL c H φ z.xs us ∧ (∀ H2 φ2 S2, Ext H φ H2 φ2 → RepS c H2 φ2 S2 → z.st S2 → ∃ us, SqT c.K H2 a us ∧ RepL c H2 φ2 z.xs us))) := by
  cases d <;> first
    | (cases e; done)
    | skip
  · rename_i xs
    cases e
    unfold RepV at r
    obtain ⟨a, us, rfl, sq, rl⟩ := r
    exact ⟨a, rfl, .inr ⟨rfl, us, sq.sq, rl, fun H2 φ2 S2 e s _ => ⟨us, SqT.ext rs.ls e sq.sq, RepL.ext rs.ls e _ _ rl⟩⟩⟩
  · rename_i l
    unfold RepV at r
    obtain ⟨a, rfl, hl⟩ := r
    have e : (S[l]?).map (fun xs => (⟨xs, fun S' => S'[l]? = some xs⟩ : Src)) = some z := e
    cases q : S[l]? with
    | none => rw [q] at e; cases e
    | some xs =>
      rw [q] at e
      cases e
      obtain ⟨a', us, h1, h2, h3⟩ := rs.at_ l xs q
      rw [hl] at h1
      cases h1
      refine ⟨a, rfl, .inl ⟨rfl, us, SqL.of h2, h3, fun H2 φ2 S2 e s hst => ?_⟩⟩
      obtain ⟨a2, us2, g1, g2, g3⟩ := s.at_ l xs hst
      rw [pre_get e.pre hl] at g1
      cases g1
      exact ⟨us2, SqL.of g2, g3⟩
  · rename_i xs
    cases e
    unfold RepV at r
    obtain ⟨a, us, rfl, sq, rl⟩ := r
    exact ⟨a, rfl, .inl ⟨rfl, us, sq.sq, rl, fun H2 φ2 S2 e s _ => ⟨us, (Frz.ext rs.ls e sq).sq, RepL.ext rs.ls e _ _ rl⟩⟩⟩
theorem zip_turn {z1 z2 : Src} {H2 H3 : Hp} {φ2 : List Addr} {S2 : Sto} {us ws : List V} {x : D} {v : V} {i : Nat} (s : RepS c H2 φ2 S2) (r1 : RepL c H2 φ2 z1.xs us) (r2 : RepL c H2 φ2 z2.xs ws)
    (hx : (zipD z1.xs z2.xs)[i]? = some x) (y : ∃ T p q, v = .ref T ∧ H2 T = none ∧ H3 = upd H2 T (.tup [p, q]) ∧ us[i]? = some p ∧ ws[i]? = some q) : Ext H2 φ2 H3 φ2 ∧ RepS c H3 φ2 S2 ∧ RepV c H3 φ2 x v := by
  obtain ⟨T, p, q, rfl, hT, rfl, h1, h2⟩ := y
  obtain ⟨d, e, rfl, g1, g2⟩ := zipD_get hx
  obtain ⟨p', k1, k2⟩ := r1.get g1
  obtain ⟨q', k3, k4⟩ := r2.get g2
  rw [h1] at k1
  rw [h2] at k3
  cases k1
  cases k3
  obtain ⟨s2, e2⟩ := s.keep (H' := upd H2 T (.tup [p, q])) (upd_keep hT)
  refine ⟨e2, s2, ?_⟩
  unfold RepV
  exact ⟨T, [p, q], rfl, SqT.of upd_same, .cons (RepV.ext s.ls e2 _ _ k2) (.cons (RepV.ext s.ls e2 _ _ k4) .nil)⟩
theorem mi_zip {p tpos : Pos} {elts : List Expr} {kk : Nat} (h : MA X c W [a, b] ra) (hm : X.mg "zip" = none) (hg : Gl X "zip" := by rfl)
    (hs : starEach [a, b] X.env = (false, eval a X.env) :: starEach [b] X.env := by rfl) (hpl : (backTo pos (starEach [b] X.env)).any (·.1) = false := by rfl) : MI X c W (.Tuple elts kk tpos) (.Call (.Name "zip" p) [a, b] [] pos) (iRange zipS ra) := fun s => by
  refine PI.imp (RZ.pi_zipA hg hm (h s) hs hpl) fun σ H R ⟨φ, ρ, S, re, rs, o⟩ => ?_
  refine ⟨φ, ρ, S, re, rs, Out.bind o fun x S1 φ1 H1 v e1 s1 r1 o1 => ?_⟩
  unfold zipS at o1
  split at o1
  · rename_i x y
    unfold RepL at r1
    obtain ⟨v1, vr, rfl, r2, r3⟩ := r1
    unfold RepL at r3
    obtain ⟨v2, vr2, rfl, r4, r5⟩ := r3
    unfold RepL at r5
    subst r5
    split at o1
    · rename_i z1 z2 q1 q2
      split at o1
      · rename_i hab
        obtain ⟨a1, rfl, k1⟩ := src_tup s1 r2 q1
        obtain ⟨a2, rfl, k2⟩ := src_tup s1 r4 q2
        rw [← s.kk]
        rcases k1 with ⟨b1, us, sq1, rl1, k1⟩ | ⟨b1, us, sq1, rl1, k1⟩
        · rcases k2 with ⟨b2, ws, sq2, rl2, k2⟩ | ⟨b2, ws, sq2, rl2, k2⟩
          · refine ⟨a1, a2, us, ws, rfl, .inl ⟨sq1, sq2, o1 φ1 H1 _ (.refl _ _) s1 ?_⟩⟩
            intro H2 φ2 S2 i e s ⟨st1, st2⟩
            obtain ⟨us, sq1, rl1⟩ := k1 H2 φ2 S2 e s st1
            obtain ⟨ws, sq2, rl2⟩ := k2 H2 φ2 S2 e s st2
            refine ⟨fun x hx => ?_, fun hl => ⟨us, ws, sq1, sq2, ?_⟩⟩
            · obtain ⟨d, e, rfl, g1, g2⟩ := zipD_get hx
              obtain ⟨p', k1, _⟩ := rl1.get g1
              obtain ⟨q', k3, _⟩ := rl2.get g2
              refine ⟨⟨us, ws, p', q', sq1, sq2, k1, k3⟩, fun v H3 ⟨T, p, q, ev, hT, eH, y1, y2⟩ => ?_⟩
              exact zip_turn s rl1 rl2 hx ⟨T, p, q, ev, hT, eH, y1 us sq1, y2 ws sq2⟩
            · have hl : (zipD z1.xs z2.xs).length ≤ i := hl
              rw [zipD_length] at hl
              have l1 := rl1.length
              have l2 := rl2.length
              omega
          · rw [b1, b2] at hab
            cases hab
        · rcases k2 with ⟨b2, ws, sq2, rl2, k2⟩ | ⟨b2, ws, sq2, rl2, k2⟩
          · rw [b1, b2] at hab
            cases hab
          · refine ⟨a1, a2, us, ws, rfl, .inr ⟨sq1, sq2, o1 φ1 H1 _ (.refl _ _) s1 ?_⟩⟩
            intro H2 φ2 S2 i e s ⟨st1, st2⟩
            obtain ⟨us, sq1, rl1⟩ := k1 H2 φ2 S2 e s st1
            obtain ⟨ws, sq2, rl2⟩ := k2 H2 φ2 S2 e s st2
            refine ⟨fun x hx => ?_, fun hl => ⟨us, ws, sq1, sq2, ?_⟩⟩
            · obtain ⟨d, e, rfl, g1, g2⟩ := zipD_get hx
              obtain ⟨p', k1, _⟩ := rl1.get g1
              obtain ⟨q', k3, _⟩ := rl2.get g2
              refine ⟨⟨us, ws, p', q', sq1, sq2, k1, k3⟩, fun v H3 ⟨T, p, q, ev, hT, eH, y1, y2⟩ => ?_⟩
              exact zip_turn s rl1 rl2 hx ⟨T, p, q, ev, hT, eH, y1 us sq1, y2 ws sq2⟩
            · have hl : (zipD z1.xs z2.xs).length ≤ i := hl
              rw [zipD_length] at hl
              have l1 := rl1.length
              have l2 := rl2.length
              omega
      · exact o1.elim
    · exact o1.elim
  · exact o1.elim

/-! ### comprehensions -/
mutual
theorem RepV.aside {H : Hp} {φ : List Addr} {p : Addr} {us ws : List V} (hp : H p = some (.lst us)) : ∀ (d : D) (v : V), RepV c H φ d v → RepV c (upd H p (.lst ws)) φ d v
  | .non, _, h => by unfold RepV at h ⊢; exact h
  | .bl _, _, h => by unfold RepV at h ⊢; exact h
  | .int _, _, h => by unfold RepV at h ⊢; exact h
  | .str _, _, h => by unfold RepV at h ⊢; exact h
  | .tup ds, _, h => by
    unfold RepV at h ⊢
    obtain ⟨a, xs, e1, e2, e3⟩ := h
    refine ⟨a, xs, e1, ?_, RepL.aside hp ds xs e3⟩
    rcases e2 with ⟨o, e4, e2⟩ | e2
    · exact .inl ⟨o, e4, by rw [upd_ne (ne_of e2 hp (fun q => by cases q))]; exact e2⟩
    · exact .inr e2
  | .wk ds, _, h => by
    unfold RepV at h ⊢
    obtain ⟨a, xs, e1, e2, e3⟩ := h
    refine ⟨a, xs, e1, ?_, RepL.aside hp ds xs e3⟩
    rcases e2 with (e2 | ⟨o, e2⟩) | e2
    · exact .inl (.inl (by rw [upd_ne (ne_of e2 hp (fun q => by cases q))]; exact e2))
    · exact .inl (.inr ⟨o, by rw [upd_ne (ne_of e2 hp (fun q => by cases q))]; exact e2⟩)
    · exact .inr e2
  | .lst l, _, h => by unfold RepV at h ⊢; exact h
  | .frl ds, _, h => by
    unfold RepV at h ⊢
    obtain ⟨a, xs, e1, e2, e3⟩ := h
    refine ⟨a, xs, e1, ?_, RepL.aside hp ds xs e3⟩
    rcases e2 with ⟨o, e2⟩ | e2
    · exact .inl ⟨o, by rw [upd_ne (ne_of e2 hp (fun q => by cases q))]; exact e2⟩
    · exact .inr e2
  | .exn n ns ds, _, h => by
    unfold RepV at h ⊢
    obtain ⟨a, cls, d, vs, e1, e2, e3, e4, e5, e6⟩ := h
    exact ⟨a, cls, d, vs, e1, e2, e3, by rw [upd_ne (ne_of e4 hp (fun q => by cases q))]; exact e4, e5, RepL.aside hp ds vs e6⟩
theorem RepL.aside {H : Hp} {φ : List Addr} {p : Addr} {us ws : List V} (hp : H p = some (.lst us)) : ∀ (ds : List D) (vs : List V), RepL c H φ ds vs → RepL c (upd H p (.lst ws)) φ ds vs
  | [], _, h => by unfold RepL at h ⊢; exact h
  | d :: ds, _, h => by
    unfold RepL at h ⊢
    obtain ⟨v, vr, e1, e2, e3⟩ := h
    exact ⟨v, vr, e1, RepV.aside hp d v e2, RepL.aside hp ds vr e3⟩
end
theorem RepS.aside {H : Hp} {φ : List Addr} {S : Sto} {p : Addr} {us ws : List V} (r : RepS c H φ S) (hp : H p = some (.lst us)) (np : p ∉ φ) : RepS c (upd H p (.lst ws)) φ S := by
  refine ⟨r.nd, r.len, fun l xs h => ?_⟩
  obtain ⟨a, vs, h1, h2, h3⟩ := r.at_ l xs h
  exact ⟨a, vs, h1, by rw [upd_ne (fun q => np (by rw [← q]; exact List.mem_of_getElem? h1))]; exact h2, RepL.aside hp _ _ h3⟩
theorem RepS.adopt {H : Hp} {φ : List Addr} {S : Sto} {p : Addr} {us : List V} {xs : List D} (r : RepS c H φ S) (hp : H p = some (.lst us)) (np : p ∉ φ) (hx : RepL c H φ xs us) : RepS c H (φ ++ [p]) (S ++ [xs]) := by
  have e : Ext H φ H (φ ++ [p]) → True := fun _ => trivial
  have up : ∀ (ds : List D) (vs : List V), RepL c H φ ds vs → RepL c H (φ ++ [p]) ds vs := fun ds vs h => grow ds vs h
  refine ⟨?_, by simp [r.len], fun l ys h => ?_⟩
  · rw [List.nodup_append]
    refine ⟨r.nd, by simp, fun a ha b hb => ?_⟩
    simp at hb
    subst hb
    exact fun q => np (q ▸ ha)
  · by_cases hl : l < S.length
    · rw [List.getElem?_append_left hl] at h
      obtain ⟨a, vs, h1, h2, h3⟩ := r.at_ l ys h
      exact ⟨a, vs, pre_get (List.prefix_append _ _) h1, h2, up _ _ h3⟩
    · have hl' : l < (S ++ [xs]).length := (List.getElem?_eq_some_iff.mp h).1
      have el : l = S.length := by simp at hl'; omega
      subst el
      rw [List.getElem?_append_right (Nat.le_refl _)] at h
      simp at h
      subst h
      refine ⟨p, us, ?_, hp, up _ _ hx⟩
      rw [← r.len, List.getElem?_append_right (Nat.le_refl _)]
      simp
where
  grow : ∀ (ds : List D) (vs : List V), RepL c H φ ds vs → RepL c H (φ ++ [p]) ds vs
    | [], _, h => by unfold RepL at h ⊢; exact h
    | d :: ds, _, h => by
      unfold RepL at h ⊢
      obtain ⟨v, vr, e1, e2, e3⟩ := h
      exact ⟨v, vr, e1, growV d v e2, grow ds vr e3⟩
  growV : ∀ (d : D) (v : V), RepV c H φ d v → RepV c H (φ ++ [p]) d v
    | .non, _, h => by unfold RepV at h ⊢; exact h
    | .bl _, _, h => by unfold RepV at h ⊢; exact h
    | .int _, _, h => by unfold RepV at h ⊢; exact h
    | .str _, _, h => by unfold RepV at h ⊢; exact h
    | .tup ds, _, h => by
      unfold RepV at h ⊢
      obtain ⟨a, xs, e1, e2, e3⟩ := h
      exact ⟨a, xs, e1, e2, grow ds xs e3⟩
    | .wk ds, _, h => by
      unfold RepV at h ⊢
      obtain ⟨a, xs, e1, e2, e3⟩ := h
      exact ⟨a, xs, e1, e2, grow ds xs e3⟩
    | .lst l, _, h => by
      unfold RepV at h ⊢
      obtain ⟨a, e1, e2⟩ := h
      exact ⟨a, e1, pre_get (List.prefix_append _ _) e2⟩
    | .frl ds, _, h => by
      unfold RepV at h ⊢
      obtain ⟨a, xs, e1, e2, e3⟩ := h
      exact ⟨a, xs, e1, e2, grow ds xs e3⟩
    | .exn n ns ds, _, h => by
      unfold RepV at h ⊢
      obtain ⟨a, cls, d, vs, e1, e2, e3, e4, e5, e6⟩ := h
      exact ⟨a, cls, d, vs, e1, e2, e3, e4, e5, grow ds vs e6⟩
theorem Ext.stays {H H' : Hp} {φ φ' : List Addr} {p : Addr} {o : HO} (e : Ext H φ H' φ') (hp : H p = some o) (np : p ∉ φ) : H' p = some o ∧ p ∉ φ' :=
  ⟨e.keep p o hp np, fun m => by
    have := e.new p m np
    rw [hp] at this
    cases this⟩
theorem wipe_at : ∀ (ws : List Nat) (σ : St) (j : Nat), (j ∈ ws → (wipe σ ws)[j]? = if j < σ.length then some none else none) ∧ (j ∉ ws → (wipe σ ws)[j]? = σ[j]?)
  | [], σ, j => ⟨fun h => by simp at h, fun _ => by unfold wipe; rfl⟩
  | w :: ws, σ, j => by
    obtain ⟨h1, h2⟩ := wipe_at ws σ j
    constructor
    · intro hm
      unfold wipe
      by_cases hj : w = j
      · subst hj
        by_cases hw : w < σ.length
        · rw [List.getElem?_set_self (by rw [wipe_length]; exact hw), if_pos hw]
        · rw [List.getElem?_eq_none (by simp [wipe_length]; omega), if_neg hw]
      · rw [List.getElem?_set_ne hj]
        rcases List.mem_cons.mp hm with e | e
        · exact absurd e.symm hj
        · exact h1 e
    · intro hm
      unfold wipe
      rw [List.getElem?_set_ne (fun q => hm (by simp [q]))]
      exact h2 (fun q => hm (List.mem_cons_of_mem _ q))
theorem wipe_eq : ∀ (ws : List Nat) {σ σ' : St}, σ'.length = σ.length → (∀ j, j ∉ ws → σ'[j]? = σ[j]?) → wipe σ' ws = wipe σ ws
  | [], σ, σ', hl, h => by
    unfold wipe
    exact List.ext_getElem? fun j => h j (by simp)
  | w :: ws, σ, σ', hl, h => by
    unfold wipe
    have key : ∀ (τ τ' : St), τ'.length = τ.length → (∀ j, j ≠ w → τ'[j]? = τ[j]?) → τ'.set w none = τ.set w none := fun τ τ' hl h => by
      refine List.ext_getElem? fun j => ?_
      by_cases hj : w = j
      · subst hj
        by_cases hw : w < τ.length
        · rw [List.getElem?_set_self hw, List.getElem?_set_self (by omega)]
        · rw [List.getElem?_eq_none (by simp; omega), List.getElem?_eq_none (by simp; omega)]
      · rw [List.getElem?_set_ne hj, List.getElem?_set_ne hj]
        exact h j (Ne.symm hj)
    refine key _ _ (by rw [wipe_length, wipe_length]; exact hl) fun j hj => ?_
    have w2 := wipe_at ws σ' j
    have w1 := wipe_at ws σ j
    by_cases hm : j ∈ ws
    · rw [w2.1 hm, w1.1 hm, hl]
    · rw [w2.2 hm, w1.2 hm]
      exact h j (by simp [hj, hm])
theorem RepE.wipe {H : Hp} {φ : List Addr} {ρ : Env} {σ : St} (h : RepE c H φ ρ σ) : ∀ ws : List Nat, RepE c H φ (wipeE ρ ws) (L2.wipe σ ws)
  | [] => h
  | w :: ws => (RepE.wipe h ws).unset
def MTs (X : Cx) (c : Cz) (W : WX) (ifs : List Expr) (ev : EvB) : Prop := Sh X c W → PTs X ifs (TTm c W ev)
theorem PTs.imp {es : List Expr} {t t' : TT} (h : PTs X es t) (k : ∀ σ H Q, t' σ H Q → t σ H Q) : PTs X es t' := ⟨fun pins s σ H Q I q => h.run pins s σ H Q I (k σ H Q q)⟩
theorem mts_nil : MTs X c W [] tTrue := fun _ => by
  refine PTs.imp pts_nil fun σ H Q ⟨φ, ρ, S, re, rs, o⟩ => ?_
  exact o φ H true (.refl _ _) rs rfl
theorem mts_one {t : Expr} {et : EvB} (h : MT X c W t et) : MTs X c W [t] et := fun s => pts_one (h s)
abbrev W0 : WX := fun _ _ _ _ => False
theorem Sh.blk (s : Sh X c W) (s0 : Shared) (H : Hp) (scope : Scope) (cenv : PySem.Env) (fp : List Addr) : Sh (X.blk s0 H scope cenv fp) c W0 := ⟨s.kk, s.mm, takes0, PassesOwn.never, s.nd⟩
/-- the reading of a comprehension -/
theorem lc_read {σ : St} {H : Hp} {Q : VK} {src : Env → Sto → Res Src} {g : D → Env → Option Env} {vs own : List Nat} {et : EvB} {ee : Ev} (hv : ∀ j ∈ vs, j ∈ own)
    (h : TEm c W (eLc src g et ee own) σ H Q) : tLc (TIm c W src) (TGm c vs g) (TTm c W0 et) (TEm c W0 ee) own σ H Q := by
  obtain ⟨φ, ρ, S, re, rs, o⟩ := h
  refine ⟨φ, ρ, S, re, rs, Out.bind o fun z S1 φ1 H1 J e1 s1 it o1 => ?_⟩
  have re1 := re.ext rs e1
  intro D' hD
  have npD : D' ∉ φ1 := fun m => by
    obtain ⟨_, q⟩ := s1.isl m
    rw [hD] at q
    cases q
  have e0 : Ext H1 φ1 (upd H1 D' (.lst [])) φ1 := (s1.keep (upd_keep hD)).2
  refine ⟨fun i m H2 => m = z.xs.length - i ∧ i ≤ z.xs.length ∧ ∃ φ2 S2 acc us, Ext H1 φ1 H2 φ2 ∧ RepS c H2 φ2 S2 ∧ H2 D' = some (.lst us) ∧ D' ∉ φ2 ∧ RepL c H2 φ2 acc us ∧
      Out c H1 φ1 (RepV c) ((lcLoop z.st g et ee (wipeE ρ own) (z.xs.drop i) acc S2).bind fun acc S2 => .ok (.lst S2.length) (S2 ++ [acc])) Q (fun cls d H' => W cls d σ H'),
    ⟨z.xs.length, by simp, Nat.zero_le _, φ1, S1, [], [], e0, (s1.keep (upd_keep hD)).1, upd_same, npD, .nil, o1⟩, ?_⟩
  rintro i m H2 ⟨rfl, hle, φ2, S2, acc, us, e2, s2, h2D, n2D, ra, o2⟩
  by_cases hlt : i < z.xs.length
  · refine .inr ?_
    have hx : z.xs[i]? = some z.xs[i] := List.getElem?_eq_getElem hlt
    rw [List.drop_eq_getElem_cons hlt] at o2
    unfold lcLoop at o2
    split at o2
    · rename_i hst
      obtain ⟨go, yl⟩ := (it H2 φ2 S2 i e2 s2 hst).1 _ hx
      split at o2
      · exact o2.elim
      · rename_i ρ3 eg
        refine ⟨go, fun H' => i + 1 ≤ z.xs.length ∧ ∃ φ2 S2 acc us, Ext H1 φ1 H' φ2 ∧ RepS c H' φ2 S2 ∧ H' D' = some (.lst us) ∧ D' ∉ φ2 ∧ RepL c H' φ2 acc us ∧
            Out c H1 φ1 (RepV c) ((lcLoop z.st g et ee (wipeE ρ own) (z.xs.drop (i + 1)) acc S2).bind fun acc S2 => .ok (.lst S2.length) (S2 ++ [acc])) Q (fun cls d H' => W cls d σ H'),
          fun H' n => ⟨z.xs.length - (i + 1), by omega, rfl, n⟩, fun v H3 y => ?_⟩
        obtain ⟨e3, s3, r3⟩ := yl v H3 y
        obtain ⟨h3D, n3D⟩ := e3.stays h2D n2D
        have ra3 := RepL.ext s2.ls e3 _ _ ra
        have e13 := e2.trans e3
        refine ⟨φ2, wipeE ρ own, S2, _, ρ3, (re1.ext s1 e13).wipe own, s3, r3, eg, fun σ3 re3 sb => ⟨?_, φ2, ρ3, S2, re3, s3, ?_⟩⟩
        · have := wipe_eq own (σ := wipe σ own) (σ' := σ3) sb.1 fun j hj => sb.2 j fun q => hj (hv j q)
          rw [this]
          exact wipe_eq own (by rw [wipe_length]) fun j hj => (wipe_at own σ j).2 hj
        · revert o2
          cases et ρ3 S2 with
          | ok k S4 =>
            intro o2 φ4 H4 k' e4 s4 hk
            unfold eqB at hk
            subst hk
            obtain ⟨h4D, n4D⟩ := e4.stays h3D n3D
            have ra4 := RepL.ext s3.ls e4 _ _ ra3
            have e14 := e13.trans e4
            cases k with
            | true =>
              refine iteT ⟨φ4, ρ3, S4, re3.ext s3 e4, s4, ?_⟩
              have o2 : Out c H1 φ1 (RepV c) ((match ee ρ3 S4 with
                | .ok d S2 => if acc.length < 1000000 then lcLoop z.st g et ee (wipeE ρ own) (z.xs.drop (i + 1)) (acc ++ [d]) S2 else .stuck
                | .exc .. => .stuck
                | .stuck => .stuck).bind fun acc S2 => .ok (.lst S2.length) (S2 ++ [acc])) Q (fun cls d H' => W cls d σ H') := o2
              revert o2
              cases ee ρ3 S4 with
              | ok d S5 =>
                intro o2 φ5 H5 y5 e5 s5 r5
                obtain ⟨h5D, n5D⟩ := e5.stays h4D n4D
                have ra5 := RepL.ext s4.ls e5 _ _ ra4
                have e15 := e14.trans e5
                by_cases hlen : acc.length < 1000000
                · have o2 : Out c H1 φ1 (RepV c) ((if acc.length < 1000000 then lcLoop z.st g et ee (wipeE ρ own) (z.xs.drop (i + 1)) (acc ++ [d]) S5 else .stuck).bind fun acc S2 => .ok (.lst S2.length) (S2 ++ [acc])) Q (fun cls d H' => W cls d σ H') := o2
                  rw [if_pos hlen] at o2
                  refine ⟨us, h5D, ?_, hlt, φ5, S5, acc ++ [d], us ++ [y5], ?_, s5.aside h5D n5D, upd_same, n5D, RepL.aside h5D _ _ (ra5.append (.cons r5 .nil)), o2⟩
                  · rw [← ra.length]
                    exact Nat.lt_trans hlen (by decide)
                  · refine ⟨e15.pre, fun b o hb nb => ?_, e15.new⟩
                    rw [upd_ne (ne_of_none hb hD)]
                    exact e15.keep b o hb nb
                · have o2 : Out c H1 φ1 (RepV c) ((if acc.length < 1000000 then lcLoop z.st g et ee (wipeE ρ own) (z.xs.drop (i + 1)) (acc ++ [d]) S5 else .stuck).bind fun acc S2 => .ok (.lst S2.length) (S2 ++ [acc])) Q (fun cls d H' => W cls d σ H') := o2
                  rw [if_neg hlen] at o2
                  exact o2.elim
              | exc n ns ds S5 => intro o2; exact o2.elim
              | stuck => intro o2; exact o2.elim
            | false =>
              exact iteF ⟨hlt, φ4, S4, acc, us, e14, s4, h4D, n4D, ra4, o2⟩
          | exc n ns ds S4 => intro o2; exact o2.elim
          | stuck => intro o2; exact o2.elim
    · exact o2.elim
  · refine .inl ?_
    have : z.xs.drop i = [] := List.drop_eq_nil_of_le (by omega)
    rw [this] at o2
    unfold lcLoop at o2
    split at o2
    · rename_i hst
      refine ⟨(it H2 φ2 S2 i e2 s2 hst).2 (by omega), o2 (φ2 ++ [D']) H2 _ ?_ (s2.adopt h2D n2D ra) ?_⟩
      · refine ⟨e2.pre.trans (List.prefix_append _ _), e2.keep, fun b hb nb => ?_⟩
        rcases List.mem_append.mp hb with hb | hb
        · exact e2.new b hb nb
        · simp at hb
          subst hb
          exact hD
      · unfold RepV
        refine ⟨D', rfl, ?_⟩
        rw [← s2.len, List.getElem?_append_right (Nat.le_refl _)]
        simp
    · exact o2.elim
theorem me_lc {elt iter : Expr} {ifs : List Expr} {scope : Scope} {own : List (Str × Nat)} {src : Env → Sto → Res Src} {g : D → Env → Option Env} {vs : List Nat} {et : EvB} {ee : Ev}
    (hi : MI X c W tg iter src) (ok : BlkOk X.N X.env.scope scope own) (hg : ∀ (s : Shared) (H : Hp) (C : Addr) (cl : List (Str × Addr)) (fp : List Addr), MG (X.blk s H scope (compEnvC scope cl C X.env) fp) c tg vs g)
    (ht : ∀ (s : Shared) (H : Hp) (C : Addr) (cl : List (Str × Addr)) (fp : List Addr), MTs (X.blk s H scope (compEnvC scope cl C X.env) fp) c W0 ifs et) (he : ∀ (s : Shared) (H : Hp) (C : Addr) (cl : List (Str × Addr)) (fp : List Addr), ME (X.blk s H scope (compEnvC scope cl C X.env) fp) c W0 elt ee)
    (hv : ∀ j ∈ vs, j ∈ own.map (·.2)) (hc : X.calm = true := by rfl) (hs : ∀ x, foldedSetIterable iter X.env x = pure x := by intro _; rfl) :
    ME X c W (.ListComp elt [⟨tg, iter, ifs, 0⟩] scope pos) (eLc src g et ee (own.map (·.2))) := fun s => by
  refine PE.imp (pe_lc hc s.nd (hi s) ok (fun s' H C cl fp => hg s' H C cl fp s.kk s.nd) (fun s' H C cl fp => ht s' H C cl fp (s.blk ..)) (fun s' H C cl fp => he s' H C cl fp (s.blk ..)) hs) fun σ H Q h => ?_
  exact lc_read hv h
theorem ms_setLc (i : Nat) {y : Str} {py : Pos} {elt iter : Expr} {ifs : List Expr} {scope : Scope} {own : List (Str × Nat)} {src : Env → Sto → Res Src} {g : D → Env → Option Env} {vs : List Nat} {et : EvB} {ee : Ev} {spos : Pos}
    (hi : MI X c W tg iter src) (ok : BlkOk X.N X.env.scope scope own) (hg : ∀ (s : Shared) (H : Hp) (C : Addr) (cl : List (Str × Addr)) (fp : List Addr), MG (X.blk s H scope (compEnvC scope cl C X.env) fp) c tg vs g)
    (ht : ∀ (s : Shared) (H : Hp) (C : Addr) (cl : List (Str × Addr)) (fp : List Addr), MTs (X.blk s H scope (compEnvC scope cl C X.env) fp) c W0 ifs et) (he : ∀ (s : Shared) (H : Hp) (C : Addr) (cl : List (Str × Addr)) (fp : List Addr), ME (X.blk s H scope (compEnvC scope cl C X.env) fp) c W0 elt ee)
    (hv : ∀ j ∈ vs, j ∈ own.map (·.2)) (hy : X.N[i]? = some y := by rfl) (hyl : X.env.scope.names.lookup y = some .local := by rfl) (hsw : swapsWith (.ListComp elt [⟨tg, iter, ifs, 0⟩] scope pos) (some (.Name y py)) spos.line X.env = pure true := by exact sw_true rfl rfl rfl (by decide +kernel))
    (hc : X.calm = true := by rfl) (hs : ∀ x, foldedSetIterable iter X.env x = pure x := by intro _; rfl) :
    MS X c W (.Assign [.Name y py] (.ListComp elt [⟨tg, iter, ifs, 0⟩] scope pos) spos) (sAsg i (eLc src g et ee (own.map (·.2)))) := fun s => by
  refine PS.imp (ps_setLc hc s.nd hy hyl hsw (hi s) ok (fun s' H C cl fp => hg s' H C cl fp s.kk s.nd) (fun s' H C cl fp => ht s' H C cl fp (s.blk ..)) (fun s' H C cl fp => he s' H C cl fp (s.blk ..)) hs) fun D' σ H ⟨φ, ρ, S, re, rs, o⟩ => ?_
  refine lc_read (W := W) hv (Q := fun x H1 => gName i x σ H1 D'.nx) ⟨φ, ρ, S, re, rs, flow_out re rs o fun x S' φ' H' y e s' q re' o' => ?_⟩
  exact o' φ' H' _ (.refl _ _) s' (re'.set q)
end
end MP
end
section
set_option Elab.async false
set_option linter.all false
set_option maxRecDepth 100000
set_option maxHeartbeats 4000000
/-! MP4: calls of defs, defs, errors raised and caught. -/
namespace MP
open PySem PySem.Spec PyProof.Rows L2

/-- a def's promise: what the function rf on data says -/
def spEv (c : Cz) (n : Nat) (rf : List D → Sto → Res D) : Sp := fun vs H Q E => vs.length = n ∧ ∃ φ ds S, RepL c H φ ds vs ∧ RepS c H φ S ∧ Out c H φ (RepV c) (rf ds S) Q E
def eCall (n : Nat) (rf : List D → Sto → Res D) (ra : EvA) : Ev := fun ρ S => (ra ρ S).bind fun ds S1 => if ds.length = n then rf ds S1 else .stuck
def eCallK (n : Nat) (pm : List D → List D → List D) (rf : List D → Sto → Res D) (ra rk : EvA) : Ev := fun ρ S => (ra ρ S).bind fun ds S1 => (rk ρ S1).bind fun ks S2 => if (pm ds ks).length = n then rf (pm ds ks) S2 else .stuck
/-- a def's run -/
def flowRes : Flow → Res D
  | .ret d S => .ok d S
  | .next _ S => .ok .non S
  | .exc n ns ds _ S => .exc n ns ds S
  | _ => .stuck
@[simp] theorem flowRes_ret {d : D} {S : Sto} : flowRes (.ret d S) = .ok d S := rfl
@[simp] theorem flowRes_next {ρ : Env} {S : Sto} : flowRes (.next ρ S) = .ok .non S := rfl
@[simp] theorem flowRes_exc {n : Str} {ns : List Str} {ds : List D} {ρ : Env} {S : Sto} : flowRes (.exc n ns ds ρ S) = .exc n ns ds S := rfl
@[simp] theorem flowRes_stuck : flowRes .stuck = .stuck := rfl
def begins (n : Nat) (ds : List D) : Env := ds.map some ++ List.replicate (n - ds.length) none
def runDef (n : Nat) (ev : Es) (ds : List D) (S : Sto) : Res D := flowRes (ev (begins n ds) S)

section
variable {X : Cx} {c : Cz} {W : WX} {a b d : Expr} {ea eb ed : Ev} {pos : Pos} {es : List Expr} {ra rk : EvA} {k : Nat} {f : Addr} {fd : FuncData} {ps : List Str} {rf : List D → Sto → Res D} {x : Str} {p : Pos}
theorem me_call (F : FnOk X.prog X.w X.K X.mg X.base (L2.CX X.prog X.w) k f fd ps (spEv c ps.length rf)) (hr : Room k X.A) (hm : X.mg x = some (.ref f)) (hk : PySem.W.keepIn X.K (.ref f) = true) (hb : Binds X.K fd ps []) (ha : MA X c W (a :: es) ra) (hg : Gl X x := by rfl)
    (hdb : (x == ("__debug__" : Str)) = false := by decide) (he : starEach (a :: es) X.env = (false, eval a X.env) :: starEach es X.env := by rfl) (hpl : (backTo pos (starEach es X.env)).any (·.1) = false := by rfl) :
    ME X c W (.Call (.Name x p) (a :: es) [] pos) (eCall ps.length rf ra) := fun s => by
  refine PE.imp (pe_callS F hr hg hm hk hb (fun σ => passAt s.tk σ) (ha s) hdb he hpl) fun σ H Q ⟨φ, ρ, S, re, rs, o⟩ => ?_
  refine ⟨φ, ρ, S, re, rs, Out.bind o fun xs S1 φ1 H1 vs e1 s1 r1 o1 => ?_⟩
  split at o1
  · rename_i hl
    exact ⟨by rw [← r1.length]; exact hl, φ1, xs, S1, r1, s1, o1⟩
  · exact o1.elim
/-! keywords -/
def MK (X : Cx) (c : Cz) (W : WX) (kws : List Keyword) (ev : EvA) : Prop := Sh X c W → PK X kws (TAm c W ev)
theorem PK.imp {es : List Keyword} {t t' : TA} (h : PK X es t) (k : ∀ σ H Q, t' σ H Q → t σ H Q) : PK X es t' := ⟨fun pos pins s σ H Q I q => h.run pos pins s σ H Q I (k σ H Q q)⟩
theorem mk_nil : MK X c W [] aNil := fun _ => by
  refine PK.imp pk_nil fun σ H Q ⟨φ, ρ, S, re, rs, o⟩ => ?_
  exact o φ H [] (.refl _ _) rs .nil
theorem mk_cons {nm : Option Str} {kpos : Pos} {kws : List Keyword} (ha : ME X c W a ea) (hr : MK X c W kws ra) : MK X c W (⟨nm, a, kpos⟩ :: kws) (aCons ea ra) := fun s => by
  refine PK.imp (pk_cons (ha s) (hr s)) fun σ H Q ⟨φ, ρ, S, re, rs, o⟩ => ?_
  refine ⟨φ, ρ, S, re, rs, Out.bind o fun x S1 φ1 H1 v e1 s1 r1 o1 => ?_⟩
  refine ⟨φ1, ρ, S1, re.ext rs e1, s1, Out.bind o1 fun xs S2 φ2 H2 vs e2 s2 r2 o2 => ?_⟩
  exact o2 φ2 H2 _ (.refl _ _) s2 (.cons (RepV.ext s1.ls e2 _ _ r1) r2)
/-- how a call with keywords gives the parameters: n positional values, keywords named ks -/
structure KwB (K : PySem.W.Frag) (fd : FuncData) (ps ks : List Str) (n : Nat) (g : List Value → List Value → List Value) (gV : List V → List V → List V) (gD : List D → List D → List D) : Prop where
  to : ∀ (s : Shared) (us ws : List Value), us.length = n → ws.length = ks.length → BindsTo s fd ⟨us, ks.zip ws⟩ (ps.zip (g us ws))
  rel : ∀ {vs : List V} {us : List Value} {zs : List V} {ws : List Value}, vs.length = n → zs.length = ks.length → Vals vs us → Vals zs ws → Vals (gV vs zs) (g us ws)
  rep : ∀ {c : Cz} {H : Hp} {φ : List Addr} {ds es : List D} {vs zs : List V}, vs.length = n → zs.length = ks.length → RepL c H φ ds vs → RepL c H φ es zs → RepL c H φ (gD ds es) (gV vs zs)
/-- the number of what is given in the evaluator -/
def eKw (n m : Nat) (pn : Nat) (gD : List D → List D → List D) (rf : List D → Sto → Res D) (ra rk : EvA) : Ev := fun ρ S => (ra ρ S).bind fun ds S1 => (rk ρ S1).bind fun ks S2 => if ds.length = n ∧ ks.length = m ∧ (gD ds ks).length = pn then rf (gD ds ks) S2 else .stuck
theorem run_kw {pins : List (Addr × Obj)} {σ : St} {H : Hp} {s : Shared} {Q : VK} {us ws : List Value} {vs zs : List V} {ks : List Str} {n : Nat} {g : List Value → List Value → List Value} {gV : List V → List V → List V} {gD : List D → List D → List D} {sp : Sp}
    (F : FnOk X.prog X.w X.K X.mg X.base (L2.CX X.prog X.w) k f fd ps sp) (hr : Room k X.A) (hb : KwB X.K fd ps ks n g gV gD) (tk : Takes X W) (I : Inv X pins σ H s) (r : Vals vs us) (rz : Vals zs ws) (l1 : vs.length = n) (l2 : zs.length = ks.length) (h : sp (gV vs zs) H Q (WE W σ)) :
    wpAny (model X.prog X.w) X.A (call (.ref f) us (ks.zip ws)) (EP X pins σ Q) X.xe s := by
  have r2 := hb.rel l1 l2 r rz
  apply wpAny_call
  apply codeAny_mono (F.run X.A X.stack s H ⟨us, ks.zip ws⟩ (g us ws) (gV vs zs) Q (WE W σ) hr I.env0 (hb.to s us ws (r.length.symm.trans l1) (rz.length.symm.trans l2)) r2 h)
  intro res s' hq
  match res, hq with
  | .error e, hq => exact passAt tk σ pins H s e s' I hq
  | .ok (.ret _), hq => exact I.after hq
theorem me_callK {kws : List Keyword} {ks : List Str} {n : Nat} {g : List Value → List Value → List Value} {gV : List V → List V → List V} {gD : List D → List D → List D}
    (F : FnOk X.prog X.w X.K X.mg X.base (L2.CX X.prog X.w) k f fd ps (spEv c ps.length rf)) (hr : Room k X.A) (hm : X.mg x = some (.ref f)) (hk : PySem.W.keepIn X.K (.ref f) = true) (hb : KwB X.K fd ps ks n g gV gD)
    (ha : MA X c W (a :: es) ra) (hkw : MK X c W kws rk) (hg : Gl X x := by rfl) (hall : (backToKw pos (keywordEach kws X.env)).all (·.1.isSome) = true := by rfl) (hks : (backToKw pos (keywordEach kws X.env)).filterMap (·.1) = ks := by rfl)
    (hdb : (x == ("__debug__" : Str)) = false := by decide) (he : starEach (a :: es) X.env = (false, eval a X.env) :: starEach es X.env := by rfl)
    (hpl : ((backTo pos (starEach (a :: es) X.env)).any (·.1) || (backToKw pos (keywordEach kws X.env)).any (·.1.isNone)) = false := by rfl) :
    ME X c W (.Call (.Name x p) (a :: es) kws pos) (eKw n ks.length ps.length gD rf ra rk) := fun sh => by
  constructor
  intro pins s σ H Q I ⟨φ, ρ, S, re, rs, o⟩
  apply wpAny_Call_Name_kw (ld_glob I hg hm ?_ hdb)
  apply PySem.W.callWith_KW (h₀ := X.base) I.ok.mod.kin hk hall (thn ((ha sh).run pos pins s σ H (fun vs H1 => (TAm c W rk) σ H1 fun zs H2 => vs.length = n ∧ zs.length = ks.length ∧ spEv c ps.length rf (gV vs zs) H2 Q (WE W σ)) I ?_) ?_) hpl he
  · refine ⟨φ, ρ, S, re, rs, Out.bind o fun xs S1 φ1 H1 vs e1 s1 r1 o1 => ?_⟩
    refine ⟨φ1, ρ, S1, re.ext rs e1, s1, Out.bind o1 fun ys S2 φ2 H2 zs e2 s2 r2 o2 => ?_⟩
    split at o2
    · rename_i hl
      have l1 : vs.length = n := by rw [← r1.length]; exact hl.1
      have l2 : zs.length = ks.length := by rw [← r2.length]; exact hl.2.1
      have r3 := hb.rep l1 l2 (RepL.ext s1.ls e2 _ _ r1) r2
      exact ⟨l1, l2, by rw [← r3.length]; exact hl.2.2, φ2, _, S2, r3, s2, o2⟩
    · exact o2.elim
  · rintro us s1 ⟨vs, H1, I1, r, q⟩
    apply thn ((hkw sh).run pos pins s1 σ H1 _ I1 q)
    rintro ws s2 ⟨zs, H2, I2, rz, l1, l2, q2⟩
    refine ⟨I2.kIn, ?_⟩
    rw [hks]
    exact run_kw F hr hb sh.tk I2 r rz l1 l2 q2
theorem me_callK0 {kws : List Keyword} {ks : List Str} {g : List Value → List Value → List Value} {gV : List V → List V → List V} {gD : List D → List D → List D}
    (F : FnOk X.prog X.w X.K X.mg X.base (L2.CX X.prog X.w) k f fd ps (spEv c ps.length rf)) (hr : Room k X.A) (hm : X.mg x = some (.ref f)) (hk : PySem.W.keepIn X.K (.ref f) = true) (hb : KwB X.K fd ps ks 0 g gV gD)
    (hkw : MK X c W kws rk) (hg : Gl X x := by rfl) (hall : (backToKw pos (keywordEach kws X.env)).all (·.1.isSome) = true := by rfl) (hks : (backToKw pos (keywordEach kws X.env)).filterMap (·.1) = ks := by rfl)
    (hdb : (x == ("__debug__" : Str)) = false := by decide)
    (hpl : ((backTo pos (starEach [] X.env)).any (·.1) || (backToKw pos (keywordEach kws X.env)).any (·.1.isNone)) = false := by rfl) :
    ME X c W (.Call (.Name x p) [] kws pos) (eKw 0 ks.length ps.length gD rf aNil rk) := fun sh => by
  constructor
  intro pins s σ H Q I ⟨φ, ρ, S, re, rs, o⟩
  apply wpAny_Call_Name_kw (ld_glob I hg hm ?_ hdb)
  apply PySem.W.callWith_KW0 (h₀ := X.base) I.ok.mod.kin hk hall ?_ hpl
  have o : Out c H φ (RepV c) ((rk ρ S).bind fun ks' S2 => if ([] : List D).length = 0 ∧ ks'.length = ks.length ∧ (gD [] ks').length = ps.length then rf (gD [] ks') S2 else .stuck) Q (fun cls d H' => W cls d σ H') := o
  apply thn ((hkw sh).run pos pins s σ H (fun zs H2 => zs.length = ks.length ∧ spEv c ps.length rf (gV [] zs) H2 Q (WE W σ)) I ?_) ?_
  · refine ⟨φ, ρ, S, re, rs, Out.bind o fun ys S2 φ2 H2 zs e2 s2 r2 o2 => ?_⟩
    split at o2
    · rename_i hl
      have l2 : zs.length = ks.length := by rw [← r2.length]; exact hl.2.1
      have r3 := hb.rep (c := c) (H := H2) (φ := φ2) (ds := []) (vs := []) rfl l2 .nil r2
      exact ⟨l2, by rw [← r3.length]; exact hl.2.2, φ2, _, S2, r3, s2, o2⟩
    · exact o2.elim
  · rintro ws s2 ⟨zs, H2, I2, rz, l2, q2⟩
    refine ⟨I2.kIn, ?_⟩
    rw [hks]
    exact run_kw (us := []) (vs := []) F hr hb sh.tk I2 .nil rz rfl l2 q2
end
/-- a def of the text keeps the promise of its evaluator -/
theorem begins_rep {c : Cz} {H : Hp} {φ : List Addr} {N : List Str} {ds : List D} {vs : List V} (r : RepL c H φ ds vs) : RepE c H φ (begins N.length ds) (L2.start N vs) := by
  have hl := r.length
  unfold begins L2.start
  refine ⟨by simp [hl], fun i d e => ?_⟩
  by_cases hi : i < ds.length
  · rw [List.getElem?_append_left (by simpa using hi), List.getElem?_map] at e
    cases q : ds[i]? with
    | none => rw [q] at e; cases e
    | some d' =>
      rw [q] at e
      cases e
      obtain ⟨v, h1, h2⟩ := r.get q
      refine ⟨v, ?_, h2⟩
      rw [List.getElem?_append_left (by simp; omega), List.getElem?_map, h1]
      rfl
  · rw [List.getElem?_append_right (by simp; omega), List.getElem?_replicate] at e
    split at e <;> cases e
theorem def_ok {P : Program} {w : World} {K : PySem.W.Frag} {mg : Str → Option Value} {base : Heap} {x qual : Str} {st : Stmt} {f : Addr} {fd : FuncData} {N ps : List Str} {k : Nat} {ev : Es} (c : Cz) (hcK : c.K = K) (hcm : c.mg = mg) (F : Fun K x qual st f fd) (S : FnScope N ps (defScope st))
    (hb : ∀ (cdv : Value) (A : Around) (outer : List PySem.Env) (s : Shared) (H : Hp) (E : XK), Room k (A.deeper (envOfC qual (defScope st) s.heap.objs.size f cdv)) →
      MSs (cxOf (L2.CX P w) P w K mg base N qual (defScope st) f cdv A outer s H E) c (fun cls d _ H => E cls d H) (defBody st) ev) : FnOk P w K mg base (L2.CX P w) (k + 1) f fd ps (spEv c ps.length (runDef N.length ev)) := by
  refine F.okX S (fun vs H Q E h => h.1) fun cdv A outer s H vs Q E hr h => ?_
  refine ⟨_, hb cdv A outer s H E hr ⟨hcK, hcm, takes_of rfl rfl rfl rfl, passes_of rfl, S.nd⟩, ?_⟩
  obtain ⟨_, φ, ds, S0, r, rs, o⟩ := h
  refine ⟨φ, begins N.length ds, S0, begins_rep r, rs, ?_⟩
  have o : Out c H φ (RepV c) (flowRes (ev (begins N.length ds) S0)) Q E := o
  revert o
  cases ev (begins N.length ds) S0 with
  | next ρ S => intro o φ' H' σ' e s r; exact o φ' H' .non e s (by unfold RepV; rfl)
  | brk ρ S => intro o; exact o.elim
  | cont ρ S => intro o; exact o.elim
  | ret d S => intro o φ' H' v e s r; exact o φ' H' v e s r
  | exc n ns ds ρ S => intro o φ' H' σ' cls dx vs e s r; exact o φ' H' cls dx vs e s
  | stuck => intro o; exact o.elim

/-! ### an own error, raised -/
/-- what __init__ of an error with the fields fs (in the order of its parameters) leaves -/
def spIni (C : Addr) (fs : List Str) : Sp := fun vs H Q _ => ∃ (a : Addr) (ws : List V), vs = .ref a :: ws ∧ ws.length = fs.length ∧ H a = some (exo a C none) ∧
  ∀ (d : Addr) (H' : Hp), H d = none → d ≠ a → H' a = some (exo a C (some d)) → H' d = some (exd d (fs.reverse.zip ws.reverse)) → (∀ b o, b ≠ a → H b = some o → H' b = some o) → Q .non H'
/-- an error's class -/
structure ErrC (X : Cx) (x : Str) (fs : List Str) (k : Nat) (fd : FuncData) (C fI : Addr) : Prop where
  ox : OexC X.K C
  mC : X.mg x = some (.ref C)
  iC : PySem.W.findIn X.K (.ref C) "__init__" = some (some (.ref fI))
  tI : PySem.W.typeIn X.K (.ref fI) = some (.type "function")
  ok : FnOk X.prog X.w X.K X.mg X.base CX0 k fI fd ("self" :: fs) (spIni C fs)
  bd : Binds X.K fd ("self" :: fs) []
def sRaise (x : Str) (fs : List Str) (ra : EvA) : Es := fun ρ S => ofRes (ra ρ S) ρ fun ds S1 => if ds.length = fs.length ∧ ds.length ≤ 1000 then .exc x fs.reverse ds.reverse ρ S1 else .stuck
theorem zip_fields : ∀ {fs : List Str} {ws : List V}, True → True := fun _ => trivial
section
variable {X : Cx} {c : Cz} {W : WX} {a b d : Expr} {ea eb ed : Ev} {pos : Pos} {es : List Expr} {ra : EvA} {x : Str} {p cp : Pos}
theorem ms_raise {fs : List Str} {k : Nat} {fd : FuncData} {C fI : Addr} (T : ErrC X x fs k fd C fI) (hr : Room (k + 1) X.A) (ha : MA X c W (a :: es) ra) (hg : Gl X x := by rfl) (hc : X.calm = true := by rfl)
    (hdb : (x == ("__debug__" : Str)) = false := by decide) (he : starEach (a :: es) X.env = (false, eval a X.env) :: starEach es X.env := by rfl) (hpl : (backTo cp (starEach es X.env)).any (·.1) = false := by rfl) :
    MS X c W (.Raise (some (.Call (.Name x p) (a :: es) [] cp)) none pos) (sRaise x fs ra) := fun s => by
  refine PS.imp (ps_raise hc s.tk (pmk_oex T.ox T.iC T.tI T.ok hr T.bd .nil pass0 hg T.mC (ha s) hdb he hpl)) fun D σ H ⟨φ, ρ, S, re, rs, o⟩ => ?_
  refine ⟨φ, ρ, S, re, rs, flow_out re rs o fun xs S1 φ1 H1 vs e1 s1 r1 re1 o1 => ?_⟩
  split at o1
  · rename_i hl
    have hl' : vs.length = fs.length := by rw [← r1.length]; exact hl.1
    refine ⟨by rw [← r1.length]; exact hl.2, fun a' ha' => ⟨a', vs, by rw [List.append_nil], hl', upd_same, fun d H' hd hda hx hdx kp => ⟨rfl, d, _, hx, hdx, ?_, ?_⟩⟩⟩
    · rw [← hd, upd_ne hda]
    · have hd1 : H1 d = none := by rw [← hd, upd_ne hda]
      have keep : ∀ b o, H1 b = some o → upd (del H' a') d (.xd (fs.reverse.zip vs.reverse)) b = some o := fun b o hb => by
        have nb : b ≠ a' := ne_of_none hb ha'
        rw [upd_ne (ne_of_none hb hd1), del_ne nb]
        exact kp b o nb (by rw [upd_ne nb]; exact hb)
      obtain ⟨s2, e2⟩ := s1.keep keep
      exact o1 φ1 _ σ _ d vs.reverse e2 s2 (re1.ext s1 e2) (by rw [s.mm]; exact T.mC) upd_same (by simp [hl']) (RepL.reverse (RepL.ext s1.ls e2 _ _ r1))
  · exact o1.elim

/-! ### an own error, caught -/
mutual
/-- no error in it -/
def noX : D → Bool
  | .tup ds => noXL ds
  | .wk ds => noXL ds
  | .frl ds => noXL ds
  | .exn _ _ _ => false
  | _ => true
def noXL : List D → Bool
  | [] => true
  | d :: ds => noX d && noXL ds
end
mutual
theorem RepV.noX {c : Cz} {H : Hp} {φ : List Addr} (hc : c.xc = none) : ∀ (d : D) (v : V), RepV c H φ d v → noX d = true
  | .non, _, _ => by unfold MP.noX; rfl
  | .bl _, _, _ => by unfold MP.noX; rfl
  | .int _, _, _ => by unfold MP.noX; rfl
  | .str _, _, _ => by unfold MP.noX; rfl
  | .tup ds, _, h => by
    unfold RepV at h
    obtain ⟨a, xs, _, _, e3⟩ := h
    unfold MP.noX
    exact RepL.noX hc ds xs e3
  | .wk ds, _, h => by
    unfold RepV at h
    obtain ⟨a, xs, _, _, e3⟩ := h
    unfold MP.noX
    exact RepL.noX hc ds xs e3
  | .lst _, _, _ => by unfold MP.noX; rfl
  | .frl ds, _, h => by
    unfold RepV at h
    obtain ⟨a, xs, _, _, e3⟩ := h
    unfold MP.noX
    exact RepL.noX hc ds xs e3
  | .exn n ns ds, _, h => by
    unfold RepV at h
    obtain ⟨a, cls, d, vs, _, e2, _⟩ := h
    rw [hc] at e2
    cases e2
theorem RepL.noX {c : Cz} {H : Hp} {φ : List Addr} (hc : c.xc = none) : ∀ (ds : List D) (vs : List V), RepL c H φ ds vs → noXL ds = true
  | [], _, _ => by unfold noXL; rfl
  | d :: ds, _, h => by
    unfold RepL at h
    obtain ⟨v, vr, _, e2, e3⟩ := h
    unfold noXL
    rw [RepV.noX hc d v e2, RepL.noX hc ds vr e3]
    rfl
end
mutual
theorem RepV.swap {c c' : Cz} {H : Hp} {φ : List Addr} (hk : c'.K = c.K) : ∀ (d : D) (v : V), MP.noX d = true → RepV c H φ d v → RepV c' H φ d v
  | .non, _, _, h => by unfold RepV at h ⊢; exact h
  | .bl _, _, _, h => by unfold RepV at h ⊢; exact h
  | .int _, _, _, h => by unfold RepV at h ⊢; exact h
  | .str _, _, _, h => by unfold RepV at h ⊢; exact h
  | .tup ds, _, n, h => by
    unfold RepV at h ⊢
    unfold MP.noX at n
    obtain ⟨a, xs, e1, e2, e3⟩ := h
    exact ⟨a, xs, e1, by rw [hk]; exact e2, RepL.swap hk ds xs n e3⟩
  | .wk ds, _, n, h => by
    unfold RepV at h ⊢
    unfold MP.noX at n
    obtain ⟨a, xs, e1, e2, e3⟩ := h
    exact ⟨a, xs, e1, by rw [hk]; exact e2, RepL.swap hk ds xs n e3⟩
  | .lst _, _, _, h => by unfold RepV at h ⊢; exact h
  | .frl ds, _, n, h => by
    unfold RepV at h ⊢
    unfold MP.noX at n
    obtain ⟨a, xs, e1, e2, e3⟩ := h
    exact ⟨a, xs, e1, by rw [hk]; exact e2, RepL.swap hk ds xs n e3⟩
  | .exn n ns ds, _, n', h => by
    unfold MP.noX at n'
    cases n'
theorem RepL.swap {c c' : Cz} {H : Hp} {φ : List Addr} (hk : c'.K = c.K) : ∀ (ds : List D) (vs : List V), noXL ds = true → RepL c H φ ds vs → RepL c' H φ ds vs
  | [], _, _, h => by unfold RepL at h ⊢; exact h
  | d :: ds, _, n, h => by
    unfold RepL at h ⊢
    unfold noXL at n
    rw [Bool.and_eq_true] at n
    obtain ⟨v, vr, e1, e2, e3⟩ := h
    exact ⟨v, vr, e1, RepV.swap hk d v n.1 e2, RepL.swap hk ds vr n.2 e3⟩
end
theorem RepS.swap {c c' : Cz} {H H0 : Hp} {φ φ0 : List Addr} {S : Sto} (hk : c'.K = c.K) (h0 : c'.xc = none) (r0 : RepS c' H0 φ0 S) (r : RepS c H φ S) : RepS c' H φ S := by
  refine ⟨r.nd, r.len, fun l xs h => ?_⟩
  obtain ⟨a, vs, h1, h2, h3⟩ := r.at_ l xs h
  obtain ⟨_, vs0, _, _, h4⟩ := r0.at_ l xs h
  exact ⟨a, vs, h1, h2, RepL.swap hk _ _ (RepL.noX h0 _ _ h4) h3⟩
theorem RepS.hot {c c' : Cz} {H : Hp} {φ : List Addr} {S : Sto} (hk : c'.K = c.K) (h0 : c.xc = none) (r : RepS c H φ S) : RepS c' H φ S := by
  refine ⟨r.nd, r.len, fun l xs h => ?_⟩
  obtain ⟨a, vs, h1, h2, h3⟩ := r.at_ l xs h
  exact ⟨a, vs, h1, h2, RepL.swap hk _ _ (RepL.noX h0 _ _ h3) h3⟩
theorem RepE.hot {c c' : Cz} {H : Hp} {φ : List Addr} {ρ : Env} {σ : St} (hk : c'.K = c.K) (h0 : c.xc = none) (r : RepE c H φ ρ σ) : RepE c' H φ ρ σ :=
  ⟨r.1, fun i d e => by
    obtain ⟨v, h1, h2⟩ := r.2 i d e
    exact ⟨v, h1, RepV.swap hk _ _ (RepV.noX h0 _ _ h2) h2⟩⟩

open Classical in
noncomputable def keepIf (p : Prop) (f : Flow) : Flow := if p then f else .stuck
theorem keepIf_out {c : Cz} {W : WX} {H : Hp} {φ : List Addr} {p : Prop} {f : Flow} {D : Ends} (o : OutF c W H φ (keepIf p f) D) : p ∧ OutF c W H φ f D := by
  unfold keepIf at o
  by_cases h : p
  · rw [if_pos h] at o
    exact ⟨h, o⟩
  · rw [if_neg h] at o
    exact o.elim
theorem keepIf_pos {p : Prop} {f : Flow} (h : p) : keepIf p f = f := by unfold keepIf; rw [if_pos h]
noncomputable def suiteEnd (S : Sto) : Flow → Flow
  | .ret d S' => keepIf (noX d = true ∧ S' = S) (.ret d S')
  | .next ρ S' => keepIf ((∀ d, some d ∈ ρ → noX d = true) ∧ S' = S) (.next ρ S')
  | .brk ρ S' => keepIf ((∀ d, some d ∈ ρ → noX d = true) ∧ S' = S) (.brk ρ S')
  | .cont ρ S' => keepIf ((∀ d, some d ∈ ρ → noX d = true) ∧ S' = S) (.cont ρ S')
  | .exc .. => .stuck
  | .stuck => .stuck
def unset (i : Nat) : Flow → Flow
  | .next ρ S => .next (ρ.set i none) S
  | .brk ρ S => .brk (ρ.set i none) S
  | .cont ρ S => .cont (ρ.set i none) S
  | f => f
noncomputable def sTryAs (i : Nat) (dec : Str → Option Bool) (body suite : Es) : Es := fun ρ S => match body ρ S with
  | .exc n ns ds ρ' S' => match dec n with
    | some true => suiteEnd S' (unset i (suite (ρ'.set i (some (.exn n ns ds))) S'))
    | some false => .exc n ns ds ρ' S'
    | none => .stuck
  | f => f
noncomputable def sTry (dec : Str → Option Bool) (body suite : Es) : Es := fun ρ S => match body ρ S with
  | .exc n ns ds ρ' S' => match dec n with
    | some true => suiteEnd S' (suite ρ' S')
    | some false => .exc n ns ds ρ' S'
    | none => .stuck
  | f => f
def Cz.hot (c : Cz) (a : Addr) (cls : Value) (d : Addr) : Cz := ⟨c.K, c.mg, some (a, cls, d)⟩
def tsm (c : Cz) (ev : Es) (a : Addr) (cls : Value) (d : Option Addr) : TS := match d with
  | some dx => TSm (c.hot a cls dx) W0 ev
  | none => fun _ _ _ => False
/-- back out of the suite -/
theorem suite_back {c c' : Cz} {H : Hp} {φ : List Addr} {S : Sto} {f : Flow} {D : Ends} (hk : c.K = c'.K) (h0 : c.xc = none) (r0 : RepS c H φ S) (o : OutF c W H φ (suiteEnd S f) D) : OutF c' W0 H φ f D := by
  have env : ∀ {H' : Hp} {φ' : List Addr} {ρ : Env} {σ : St}, (∀ d, some d ∈ ρ → noX d = true) → RepE c' H' φ' ρ σ → RepE c H' φ' ρ σ := fun {H' φ' ρ σ} n r =>
    ⟨r.1, fun i d e => by
      obtain ⟨v, h1, h2⟩ := r.2 i d e
      exact ⟨v, h1, RepV.swap hk _ _ (n d (List.mem_of_getElem? e)) h2⟩⟩
  cases f with
  | ret d S' =>
    obtain ⟨⟨h1, es⟩, o2⟩ := keepIf_out o
    subst es
    intro φ' H' v e s r
    exact o2 φ' H' v e (RepS.swap hk h0 r0 s) (RepV.swap hk _ _ h1 r)
  | next ρ S' =>
    obtain ⟨⟨h1, es⟩, o2⟩ := keepIf_out o
    subst es
    intro φ' H' σ' e s r
    exact o2 φ' H' σ' e (RepS.swap hk h0 r0 s) (env h1 r)
  | brk ρ S' =>
    obtain ⟨⟨h1, es⟩, o2⟩ := keepIf_out o
    subst es
    intro φ' H' σ' e s r
    exact o2 φ' H' σ' e (RepS.swap hk h0 r0 s) (env h1 r)
  | cont ρ S' =>
    obtain ⟨⟨h1, es⟩, o2⟩ := keepIf_out o
    subst es
    intro φ' H' σ' e s r
    exact o2 φ' H' σ' e (RepS.swap hk h0 r0 s) (env h1 r)
  | exc n ns ds ρ S' => exact o.elim
  | stuck => exact o.elim
theorem unset_out {c : Cz} {H : Hp} {φ : List Addr} {i : Nat} {f : Flow} {D : Ends} (o : OutF c W0 H φ (unset i f) D) : OutF c W0 H φ f { nx := fun σ' H' => D.nx (σ'.set i none) H', rt := D.rt, bk := fun σ' H' => D.bk (σ'.set i none) H', ct := fun σ' H' => D.ct (σ'.set i none) H' } := by
  cases f with
  | next ρ S => intro φ' H' σ' e s r; exact o φ' H' _ e s r.unset
  | brk ρ S => intro φ' H' σ' e s r; exact o φ' H' _ e s r.unset
  | cont ρ S => intro φ' H' σ' e s r; exact o φ' H' _ e s r.unset
  | ret d S => exact o
  | exc n ns ds ρ S => exact o
  | stuck => exact o
theorem ms_tryAs (i : Nat) {n ex : Str} {cv : Value} {dec : Str → Option Bool} {body suite : List Stmt} {b0 : Stmt} {np hp : Pos} {eb' es' : Es} (h0 : c.xc = none) (hdec : ∀ m b cls, dec m = some b → X.mg m = some cls → PySem.W.exmOne X.K cls cv = some b)
    (hn : Names X ex cv) (hb : ∀ (W : WX) (pn : List (Addr × Obj)) (xe : Value → Shared → Prop), Takes (X.tr pn xe) W → PassesOwn (model X.prog X.w) X.A X.env xe → MSs (X.tr pn xe) c W body eb')
    (hsu : ∀ (a : Addr) (oe : Obj) (cls : Value) (d : Addr) (pn : List (Addr × Obj)), Zc cls (some d) oe → (∃ vs, oe.data = .fields vs) → MSs (X.suite a ((a, oe) :: pn)) (c.hot a cls d) W0 (b0 :: suite) es')
    (hi : X.N[i]? = some n := by rfl) (hln : X.env.kindOf n = some .local := by rfl) (hs : X.stack = X.env :: X.outer := by rfl) (hf : X.env.frame = some X.env.locals := by rfl) :
    MS X c W (.Try body [.ExceptHandler (some (.Name ex np)) (some n) (b0 :: suite) hp] [] [] pos) (sTryAs i dec eb' es') := fun s => by
  refine PS.imp (ps_try_as (tb := fun W => TSm c W eb') (ts := fun a cls d => tsm c es' a cls d) hs hf s.nd hi hln hn s.tk (fun W pn xe tk ow => hb W pn xe tk ow ⟨s.kk, s.mm, tk, ow, s.nd⟩) (fun a oe cls d pn hz hf => ?_)) fun D σ H ⟨φ, ρ, S, re, rs, o⟩ => ?_
  · cases d with
    | none => exact ⟨fun _ _ _ _ _ _ h => h.elim⟩
    | some d => exact hsu a oe cls d pn hz hf ⟨s.kk, s.mm, takes0, PassesOwn.never, s.nd⟩
  · refine ⟨φ, ρ, S, re, rs, ?_⟩
    unfold sTryAs at o
    revert o
    cases eb' ρ S with
    | exc m ns ds ρ' S' =>
      intro o φ' H' σ' cls dx vs e s1 r1 hm hd hl rl
      cases hq : dec m with
      | none => simp only [hq] at o; exact o.elim
      | some bb =>
        simp only [hq] at o
        refine ⟨bb, hdec m bb cls hq (by rw [← s.mm]; exact hm), fun hbt a' ha' => ?_, fun hbf => ?_⟩
        · subst hbt
          have hotK : (c.hot a' cls dx).K = c.K := rfl
          refine ⟨φ', ρ'.set i (some (.exn m ns ds)), S', ?_, RepS.hot hotK h0 s1, ?_⟩
          · refine (RepE.hot hotK h0 r1).set ?_
            unfold RepV
            exact ⟨a', cls, dx, vs, rfl, rfl, hm, hd, hl, RepL.swap hotK _ _ (RepL.noX h0 _ _ rl) rl⟩
          · exact unset_out (suite_back (c := c) (W := W) rfl h0 s1 (OutF.later o e))
        · subst hbf
          exact o φ' H' σ' cls dx vs e s1 r1 hm hd hl rl
    | next ρ' S' => intro o; exact o
    | brk ρ' S' => intro o; exact o
    | cont ρ' S' => intro o; exact o
    | ret d S' => intro o; exact o
    | stuck => intro o; exact o
theorem ms_try {ex : Str} {cv : Value} {dec : Str → Option Bool} {body suite : List Stmt} {b0 : Stmt} {np hp : Pos} {eb' es' : Es} (h0 : c.xc = none) (hdec : ∀ m b cls, dec m = some b → X.mg m = some cls → PySem.W.exmOne X.K cls cv = some b)
    (hn : Names X ex cv) (hb : ∀ (W : WX) (pn : List (Addr × Obj)) (xe : Value → Shared → Prop), Takes (X.tr pn xe) W → PassesOwn (model X.prog X.w) X.A X.env xe → MSs (X.tr pn xe) c W body eb')
    (hsu : ∀ (a : Addr) (oe : Obj) (cls : Value) (d : Addr) (pn : List (Addr × Obj)), Zc cls (some d) oe → (∃ vs, oe.data = .fields vs) → MSs (X.suite a ((a, oe) :: pn)) (c.hot a cls d) W0 (b0 :: suite) es')
    (hs : X.stack = X.env :: X.outer := by rfl) (hf : X.env.frame = some X.env.locals := by rfl) :
    MS X c W (.Try body [.ExceptHandler (some (.Name ex np)) none (b0 :: suite) hp] [] [] pos) (sTry dec eb' es') := fun s => by
  refine PS.imp (ps_try_only (tb := fun W => TSm c W eb') (ts := fun a cls d => tsm c es' a cls d) hs hf hn s.tk (fun W pn xe tk ow => hb W pn xe tk ow ⟨s.kk, s.mm, tk, ow, s.nd⟩) (fun a oe cls d pn hz hf => ?_)) fun D σ H ⟨φ, ρ, S, re, rs, o⟩ => ?_
  · cases d with
    | none => exact ⟨fun _ _ _ _ _ _ h => h.elim⟩
    | some d => exact hsu a oe cls d pn hz hf ⟨s.kk, s.mm, takes0, PassesOwn.never, s.nd⟩
  · refine ⟨φ, ρ, S, re, rs, ?_⟩
    unfold sTry at o
    revert o
    cases eb' ρ S with
    | exc m ns ds ρ' S' =>
      intro o φ' H' σ' cls dx vs e s1 r1 hm hd hl rl
      cases hq : dec m with
      | none => simp only [hq] at o; exact o.elim
      | some bb =>
        simp only [hq] at o
        refine ⟨bb, hdec m bb cls hq (by rw [← s.mm]; exact hm), fun hbt a' ha' => ?_, fun hbf => ?_⟩
        · subst hbt
          have hotK : (c.hot a' cls dx).K = c.K := rfl
          exact ⟨φ', ρ', S', RepE.hot hotK h0 r1, RepS.hot hotK h0 s1, suite_back (c := c) (W := W) rfl h0 s1 (OutF.later o e)⟩
        · subst hbf
          exact o φ' H' σ' cls dx vs e s1 r1 hm hd hl rl
    | next ρ' S' => intro o; exact o
    | brk ρ' S' => intro o; exact o
    | cont ρ' S' => intro o; exact o
    | ret d S' => intro o; exact o
    | stuck => intro o; exact o
end
end MP
end
section
set_option Elab.async false
set_option linter.all false
set_option maxRecDepth 100000
set_option maxHeartbeats 4000000
/-! MP5: operations on data. -/
namespace MP
open PySem PySem.Spec PyProof.Rows L2

section
variable {X : Cx} {c : Cz} {W : WX} {a b d : Expr} {ea eb ed : Ev} {pos : Pos} {es : List Expr} {ra : EvA} {x : Str} {p : Pos}
abbrev Op2 := D → D → Sto → Option (D × Sto)
/-- the most that a list made by + or * may hold here -/
def most : Nat := 1000000
theorem most_le {n : Nat} (h : n ≤ most) : n ≤ sizeLine := Nat.le_trans h (by decide)
theorem most_lt {n : Nat} (h : n < most) : n < sizeLine := Nat.lt_of_lt_of_le h (by decide)

theorem OpR.imp {f : Value → Value → Sem Value} {r r' : R2} (h : OpR X f r) (k : ∀ x y H Q, r' x y H Q → r x y H Q) : OpR X f r' := fun pins s σ H x y v u Q I rx ry q => h pins s σ H x y v u Q I rx ry (k _ _ _ _ q)
theorem OpR.or {f : Value → Value → Sem Value} {r r' : R2} (h : OpR X f r) (h' : OpR X f r') : OpR X f (fun x y H Q => r x y H Q ∨ r' x y H Q) := fun pins s σ H x y v u Q I rx ry q => by
  rcases q with q | q
  · exact h pins s σ H x y v u Q I rx ry q
  · exact h' pins s σ H x y v u Q I rx ry q
/-! ints -/
def dI (C : Int → Int → Prop) [∀ i j, Decidable (C i j)] (g : Int → Int → D) : Op2 := fun d e S => match d, e with
  | .int i, .int j => if C i j then some (g i j, S) else none
  | _, _ => none
def dI0 (g : Int → Int → D) : Op2 := fun d e S => match d, e with
  | .int i, .int j => some (g i j, S)
  | _, _ => none
theorem opd_I {f : Value → Value → Sem Value} {C : Int → Int → Prop} [∀ i j, Decidable (C i j)] {g : Int → Int → V} {gD : Int → Int → D} (h : OpR X f (rI C g)) (hg : ∀ i j c H φ, RepV c H φ (gD i j) (g i j)) : OpD X c f (dI C gD) := fun _ => by
  refine OpR.imp h fun x y H Q ⟨φ, S, d, e, rs, r1, r2, o⟩ => ?_
  cases d <;> cases e <;> first
    | exact False.elim o
    | skip
  rename_i i j
  unfold RepV at r1 r2
  unfold dI at o
  by_cases hc : C i j
  · simp only [if_pos hc] at o
    exact ⟨i, j, r1, r2, hc, o φ H _ (.refl _ _) rs (hg i j c H φ)⟩
  · simp only [if_neg hc] at o
    exact o.elim
theorem opd_I0 {f : Value → Value → Sem Value} {g : Int → Int → V} {gD : Int → Int → D} (h : OpR X f (rI0 g)) (hg : ∀ i j c H φ, RepV c H φ (gD i j) (g i j)) : OpD X c f (dI0 gD) := fun _ => by
  refine OpR.imp h fun x y H Q ⟨φ, S, d, e, rs, r1, r2, o⟩ => ?_
  cases d <;> cases e <;> first
    | exact False.elim o
    | skip
  rename_i i j
  unfold RepV at r1 r2
  exact ⟨i, j, r1, r2, o φ H _ (.refl _ _) rs (hg i j c H φ)⟩
theorem rep_int {i : Int} {H : Hp} {φ : List Addr} : RepV c H φ (.int i) (.int i) := by unfold RepV; rfl
theorem rep_bl {i : Bool} {H : Hp} {φ : List Addr} : RepV c H φ (.bl i) (.bl i) := by unfold RepV; rfl
theorem rep_str {i : Str} {H : Hp} {φ : List Addr} : RepV c H φ (.str i) (.str i) := by unfold RepV; rfl
theorem rep_non {H : Hp} {φ : List Addr} : RepV c H φ .non .non := by unfold RepV; rfl
def dSub : Op2 := dI0 fun i j => .int (i - j)
theorem od_sub : OpD X c (binaryOp .Sub) dSub := opd_I0 op_sub fun _ _ _ _ _ => rep_int
def CDivA (i j : Int) : Prop := j ≠ 0 ∧ j.natAbs.log2 < 9000
noncomputable instance (i j : Int) : Decidable (CDivA i j) := Classical.propDecidable _
theorem op_fdivA : OpR X (binaryOp .FloorDiv) (rI CDivA fun i j => .int (i.fdiv j)) := opI fun i j _ _ _ _ _ hc q => floordiv_int hc.1 q (.inl (PyProof.noPylong_of_log2 hc.2))
noncomputable def dDiv : Op2 := dI CDivA fun i j => .int (i.fdiv j)
theorem od_div : OpD X c (binaryOp .FloorDiv) dDiv := opd_I op_fdivA fun _ _ _ _ _ => rep_int
def CModA (i j : Int) : Prop := j ≠ 0
instance (i j : Int) : Decidable (CModA i j) := by unfold CModA; exact inferInstance
def dMod : Op2 := dI CModA fun i j => .int (i.fmod j)
theorem od_mod : OpD X c (binaryOp .Mod) dMod := opd_I (C := CModA) op_modN fun _ _ _ _ _ => rep_int
instance (i j : Int) : Decidable (CPow i j) := by unfold CPow; exact inferInstance
def dPow : Op2 := dI CPow fun i j => .int (i ^ j.toNat)
theorem od_pow : OpD X c (binaryOp .Pow) dPow := opd_I op_pow fun _ _ _ _ _ => rep_int
def dLt : Op2 := dI0 fun i j => .bl (decide (i < j))
def dLe : Op2 := dI0 fun i j => .bl (decide (i ≤ j))
def dGt : Op2 := dI0 fun i j => .bl (decide (j < i))
def dGe : Op2 := dI0 fun i j => .bl (decide (j ≤ i))
theorem od_lt : OpD X c (compareOp .Lt) dLt := opd_I0 op_lt fun _ _ _ _ _ => rep_bl
theorem od_le : OpD X c (compareOp .LtE) dLe := opd_I0 op_le fun _ _ _ _ _ => rep_bl
theorem od_gt : OpD X c (compareOp .Gt) dGt := opd_I0 op_gt fun _ _ _ _ _ => rep_bl
theorem od_ge : OpD X c (compareOp .GtE) dGe := opd_I0 op_ge fun _ _ _ _ _ => rep_bl
def dNeg : D → Sto → Option (D × Sto) := fun d S => match d with
  | .int i => some (.int (-i), S)
  | _ => none
theorem ud_neg : UnD X c (unaryOp .USub) dNeg := fun _ => by
  intro pins s σ H x v Q I rx ⟨φ, S, d, rs, r, o⟩
  cases d <;> first
    | exact False.elim o
    | skip
  rename_i i
  unfold RepV at r
  exact un_neg pins s σ H x v Q I rx ⟨i, r, o φ H _ (.refl _ _) rs rep_int⟩
/-! + and *, by kinds -/
def dAdd : Op2 := fun d e S => match d, e with
  | .int i, .int j => some (.int (i + j), S)
  | .lst l, .lst m => match S[l]?, S[m]? with
    | some xs, some ys => if xs.length + ys.length ≤ most then some (.lst S.length, S ++ [xs ++ ys]) else none
    | _, _ => none
  | .tup xs, .tup ys => if xs.length + ys.length ≤ most then some (.tup (xs ++ ys), S) else none
  | .str x, .str y => if x.length + y.length ≤ most then some (.str (x ++ y), S) else none
  | _, _ => none
theorem new_list {φ : List Addr} {H : Hp} {S : Sto} {Q : VK} {xs : List D} {vs : List V} (rs : RepS c H φ S) (r : RepL c H φ xs vs) (o : OutO c H φ (RepV c) (some (D.lst S.length, S ++ [xs])) Q) : ∀ p, H p = none → Q (.ref p) (upd H p (.lst vs)) := fun p hp => by
  obtain ⟨s2, e2⟩ := rs.push hp r
  refine o _ _ _ e2 s2 ?_
  unfold RepV
  refine ⟨p, rfl, ?_⟩
  rw [← rs.len, List.getElem?_append_right (Nat.le_refl _)]
  simp
theorem new_tup {φ : List Addr} {H : Hp} {S : Sto} {Q : VK} {xs : List D} {vs : List V} (rs : RepS c H φ S) (r : RepL c H φ xs vs) (o : OutO c H φ (RepV c) (some (D.tup xs, S)) Q) : NewT Q H vs := fun p ob hp hn => by
  obtain ⟨s2, e2⟩ := rs.keep (H' := upd H p (.frz ob (.tup vs))) (upd_keep hp)
  refine o _ _ _ e2 s2 ?_
  unfold RepV
  exact ⟨p, vs, rfl, .inl ⟨ob, hn, upd_same⟩, RepL.ext rs.ls e2 _ _ r⟩
theorem old_tup {φ : List Addr} {H : Hp} {S : Sto} {Q : VK} {xs : List D} {vs : List V} {q : Addr} (rs : RepS c H φ S) (h : SqN c.K H q vs) (r : RepL c H φ xs vs) (o : OutO c H φ (RepV c) (some (D.tup xs, S)) Q) : Q (.ref q) H := by
  refine o φ H _ (.refl _ _) rs ?_
  unfold RepV
  exact ⟨q, vs, rfl, h, r⟩
theorem od_add : OpD X c (binaryOp .Add) dAdd := fun kk => by
  refine OpR.imp (OpR.or op_add (OpR.or op_cat (OpR.or op_catN op_add_str))) fun x y H Q ⟨φ, S, d, e, rs, r1, r2, o⟩ => ?_
  cases d <;> cases e <;> first
    | exact False.elim o
    | skip
  · rename_i i j
    unfold RepV at r1 r2
    exact .inl ⟨i, j, r1, r2, o φ H _ (.refl _ _) rs rep_int⟩
  · rename_i i j
    unfold RepV at r1 r2
    unfold dAdd at o
    by_cases hz : i.length + j.length ≤ most
    · simp only [if_pos hz] at o
      exact .inr (.inr (.inr ⟨i, j, r1, r2, most_le hz, o φ H _ (.refl _ _) rs rep_str⟩))
    · simp only [if_neg hz] at o
      exact o.elim
  · rename_i xs ys
    unfold RepV at r1 r2
    obtain ⟨a1, us, rfl, h1, k1⟩ := r1
    obtain ⟨a2, ws, rfl, h2, k2⟩ := r2
    unfold dAdd at o
    by_cases hz : xs.length + ys.length ≤ most
    · simp only [if_pos hz] at o
      have l1 := k1.length
      have l2 := k2.length
      refine .inr (.inr (.inl ⟨a1, a2, us, ws, rfl, rfl, by rw [← kk]; exact h1.sq, by rw [← kk]; exact h2.sq, by rw [← l1, ← l2]; exact most_le hz, fun eu => ?_, fun _ ew => ?_, fun _ _ => ?_⟩))
      · subst eu
        have : xs = [] := List.eq_nil_of_length_eq_zero (by simpa using l1)
        subst this
        exact old_tup rs h2 k2 o
      · subst ew
        have : ys = [] := List.eq_nil_of_length_eq_zero (by simpa using l2)
        subst this
        rw [List.append_nil] at o
        exact old_tup rs h1 k1 o
      · exact new_tup rs (k1.append k2) o
    · simp only [if_neg hz] at o
      exact o.elim
  · rename_i l m
    unfold RepV at r1 r2
    obtain ⟨a1, rfl, h1⟩ := r1
    obtain ⟨a2, rfl, h2⟩ := r2
    unfold dAdd at o
    cases q1 : S[l]? with
    | none => simp only [q1] at o; exact o.elim
    | some xs =>
      cases q2 : S[m]? with
      | none => simp only [q1, q2] at o; exact o.elim
      | some ys =>
        simp only [q1, q2] at o
        by_cases hz : xs.length + ys.length ≤ most
        · simp only [if_pos hz] at o
          obtain ⟨b1, us, g1, g2, g3⟩ := rs.at_ l xs q1
          obtain ⟨b2, ws, g4, g5, g6⟩ := rs.at_ m ys q2
          rw [h1] at g1
          rw [h2] at g4
          cases g1
          cases g4
          exact .inr (.inl ⟨a1, a2, us, ws, rfl, rfl, g2, g5, by rw [← g3.length, ← g6.length]; exact most_le hz, new_list rs (g3.append g6) o⟩)
        · simp only [if_neg hz] at o
          exact o.elim
/-- * of two factors of together less than a hundred million bits -/
def CMulA (i j : Int) : Prop := i.natAbs.log2 + j.natAbs.log2 < 100000000
theorem CMulA.ok {i j : Int} (h : CMulA i j) : IntMulOk i j := by
  have b : ∀ x : Int, Builtin.Int.intBits x ≤ x.natAbs.log2 + 1 := fun x => by
    unfold Builtin.Int.intBits
    split <;> omega
  have h1 := b i
  have h2 := b j
  have h3 : i.natAbs.log2 + j.natAbs.log2 < 100000000 := h
  have e : bitsLine = 134217728 := by decide
  unfold IntMulOk
  intro z
  rw [Bool.and_eq_true] at z
  have z2 := z.2
  unfold Builtin.Int.intTooBig at z2
  have z3 := of_decide_eq_true z2
  rw [e] at z3
  omega
theorem op_mulA {X : Cx} : OpR X (binaryOp .Mult) (rI CMulA fun i j => .int (i * j)) := opI fun _ _ _ _ _ _ _ hc q => mul_int q hc.ok
noncomputable instance (i j : Int) : Decidable (CMulA i j) := Classical.propDecidable _
noncomputable def dMul : Op2 := fun d e S => match d, e with
  | .int i, .int j => if CMulA i j then some (.int (i * j), S) else none
  | .lst l, .int k => match S[l]? with
    | some xs => if k < 1000000 ∧ -1000000 < k ∧ xs.length * k.toNat ≤ most then some (.lst S.length, S ++ [(List.replicate k.toNat xs).flatten]) else none
    | none => none
  | _, _ => none
theorem RepL.rep {H : Hp} {φ : List Addr} {ds : List D} {vs : List V} (r : RepL c H φ ds vs) : ∀ n : Nat, RepL c H φ (List.replicate n ds).flatten (List.replicate n vs).flatten
  | 0 => .nil
  | n + 1 => by
    rw [List.replicate_succ, List.replicate_succ, List.flatten_cons, List.flatten_cons]
    exact r.append (RepL.rep r n)
theorem od_mul : OpD X c (binaryOp .Mult) dMul := fun kk => by
  refine OpR.imp (OpR.or op_mulA op_rep) fun x y H Q ⟨φ, S, d, e, rs, r1, r2, o⟩ => ?_
  cases d <;> cases e <;> first
    | exact False.elim o
    | skip
  · rename_i i j
    unfold RepV at r1 r2
    unfold dMul at o
    by_cases hz : CMulA i j
    · simp only [if_pos hz] at o
      exact .inl ⟨i, j, r1, r2, hz, o φ H _ (.refl _ _) rs rep_int⟩
    · simp only [if_neg hz] at o
      exact o.elim
  · rename_i l k
    unfold RepV at r1 r2
    obtain ⟨a1, rfl, h1⟩ := r1
    unfold dMul at o
    cases q1 : S[l]? with
    | none => simp only [q1] at o; exact o.elim
    | some xs =>
      simp only [q1] at o
      by_cases hz : k < 1000000 ∧ -1000000 < k ∧ xs.length * k.toNat ≤ most
      · simp only [if_pos hz] at o
        obtain ⟨b1, us, g1, g2, g3⟩ := rs.at_ l xs q1
        rw [h1] at g1
        cases g1
        exact .inr ⟨a1, k, us, rfl, r2, g2, by omega, by omega, by rw [← g3.length]; exact most_le hz.2.2, new_list rs (g3.rep _) o⟩
      · simp only [if_neg hz] at o
        exact o.elim
/-! == and != of data -/
def toPyL (f : D → Option PyData) : List D → Option (List PyData)
  | [] => some []
  | d :: ds => (f d).bind fun p => (toPyL f ds).map fun ps => p :: ps
def toPy (S : Sto) : Nat → D → Option PyData
  | 0, _ => none
  | n + 1, d => match d with
    | .non => some .none
    | .bl b => some (.bool b)
    | .int i => some (.int i)
    | .str x => if PyData.strOk x = true then some (.str x) else none
    | .tup ds => (toPyL (toPy S n) ds).map .tuple
    | .lst l => (S[l]?).bind fun ds => (toPyL (toPy S n) ds).map .list
    | .frl ds => (toPyL (toPy S n) ds).map .list
    | .exn .. => none
    | .wk .. => none
theorem depthAll_le {n : Nat} : ∀ {ps : List PyData}, (∀ p ∈ ps, p.depth ≤ n) → PyData.depthAll ps ≤ n
  | [], _ => by simp [PyData.depthAll]
  | p :: ps, h => by
    have h1 := h p (by simp)
    have h2 := depthAll_le (n := n) (ps := ps) fun q hq => h q (by simp [hq])
    simp only [PyData.depthAll]
    omega
theorem toPy_ok {H : Hp} {φ : List Addr} {S : Sto} (rs : RepS c H φ S) : ∀ (n : Nat) (d : D) (v : V) (pd : PyData), RepV c H φ d v → toPy S n d = some pd → Dp c.K H v pd ∧ pd.canLay0 = true ∧ pd.depth ≤ n
  | 0, d, v, pd, r, e => by cases e
  | n + 1, d, v, pd, r, e => by
    have all : ∀ (ds : List D) (vs : List V) (ps : List PyData), RepL c H φ ds vs → toPyL (toPy S n) ds = some ps → DpAll c.K H vs ps ∧ PyData.canLayAll0 ps = true ∧ ∀ p ∈ ps, p.depth ≤ n := by
      intro ds
      induction ds with
      | nil =>
        intro vs ps r e
        unfold RepL at r
        subst r
        cases e
        exact ⟨.nil, by simp [PyData.canLayAll0], by simp⟩
      | cons d ds ih =>
        intro vs ps r e
        unfold RepL at r
        obtain ⟨v, vr, rfl, r1, r2⟩ := r
        unfold toPyL at e
        cases q1 : toPy S n d with
        | none => rw [q1] at e; cases e
        | some p1 =>
          cases q2 : toPyL (toPy S n) ds with
          | none => rw [q1, q2] at e; cases e
          | some p2 =>
            rw [q1, q2] at e
            cases e
            obtain ⟨a1, a2, a3⟩ := toPy_ok rs n d v p1 r1 q1
            obtain ⟨b1, b2, b3⟩ := ih vr p2 r2 q2
            refine ⟨.cons a1 b1, by simp [PyData.canLayAll0, a2, b2], fun p hp => ?_⟩
            rcases List.mem_cons.mp hp with rfl | hp
            · exact a3
            · exact b3 p hp
    cases d with
    | non => cases e; unfold RepV at r; subst r; exact ⟨.non, by simp [PyData.canLay0], by simp [PyData.depth]⟩
    | bl b => cases e; unfold RepV at r; subst r; exact ⟨.bl b, by simp [PyData.canLay0], by simp [PyData.depth]⟩
    | int i => cases e; unfold RepV at r; subst r; exact ⟨.int i, by simp [PyData.canLay0], by simp [PyData.depth]⟩
    | str x =>
      unfold toPy at e
      by_cases hx : PyData.strOk x = true
      · simp only [if_pos hx] at e
        cases e
        unfold RepV at r
        subst r
        exact ⟨.str x, by simp [PyData.canLay0, hx], by simp [PyData.depth]⟩
      · simp only [if_neg hx] at e
        cases e
    | tup ds =>
      unfold toPy at e
      unfold RepV at r
      obtain ⟨a, us, rfl, h1, h2⟩ := r
      cases q : toPyL (toPy S n) ds with
      | none => simp only [q] at e; cases e
      | some ps =>
        simp only [q] at e
        cases e
        obtain ⟨b1, b2, b3⟩ := all ds us ps h2 q
        refine ⟨.tup h1.sq b1, by simp [PyData.canLay0, b2], ?_⟩
        have := depthAll_le b3
        simp only [PyData.depth]
        omega
    | lst l =>
      unfold toPy at e
      unfold RepV at r
      obtain ⟨a, rfl, h1⟩ := r
      cases q0 : S[l]? with
      | none => simp only [q0] at e; cases e
      | some ds =>
        obtain ⟨a', us, g1, g2, g3⟩ := rs.at_ l ds q0
        rw [h1] at g1
        cases g1
        cases q : toPyL (toPy S n) ds with
        | none => simp only [q0, Option.bind_some, q] at e; cases e
        | some ps =>
          simp only [q0, Option.bind_some, q] at e
          cases e
          obtain ⟨b1, b2, b3⟩ := all ds us ps g3 q
          refine ⟨.lst (SqL.of g2) b1, by simp [PyData.canLay0, b2], ?_⟩
          have := depthAll_le b3
          simp only [PyData.depth]
          omega
    | frl ds =>
      unfold toPy at e
      unfold RepV at r
      obtain ⟨a, us, rfl, h1, h2⟩ := r
      cases q : toPyL (toPy S n) ds with
      | none => simp only [q] at e; cases e
      | some ps =>
        simp only [q] at e
        cases e
        obtain ⟨b1, b2, b3⟩ := all ds us ps h2 q
        refine ⟨.lst h1.sq b1, by simp [PyData.canLay0, b2], ?_⟩
        have := depthAll_le b3
        simp only [PyData.depth]
        omega
    | exn n' ns ds => cases e
    | wk ds => cases e
def deep : Nat := 40
def dEq : Op2 := fun d e S => match toPy S deep d, toPy S deep e with
  | some p, some q => some (.bl (PyData.eqv p q), S)
  | _, _ => none
def dNe : Op2 := fun d e S => match toPy S deep d, toPy S deep e with
  | some p, some q => some (.bl (!PyData.eqv p q), S)
  | _, _ => none
theorem shaped_deep {p : PyData} (h1 : p.canLay0 = true) (h2 : p.depth ≤ deep) : SeqAt.shaped p = true := by
  unfold SeqAt.shaped
  rw [h1, Bool.true_and, decide_eq_true_eq]
  exact Nat.le_trans h2 (by decide)
theorem od_eq (hu : X.A.units + 64 < cLine) : OpD X c (compareOp .Eq) dEq := fun kk => by
  refine OpR.imp (op_eqD hu) fun x y H Q ⟨φ, S, d, e, rs, r1, r2, o⟩ => ?_
  unfold dEq at o
  cases q1 : toPy S deep d with
  | none => simp only [q1] at o; exact o.elim
  | some p =>
    cases q2 : toPy S deep e with
    | none => simp only [q1, q2] at o; exact o.elim
    | some q =>
      simp only [q1, q2] at o
      obtain ⟨a1, a2, a3⟩ := toPy_ok rs _ _ _ _ r1 q1
      obtain ⟨b1, b2, b3⟩ := toPy_ok rs _ _ _ _ r2 q2
      rw [kk] at a1 b1
      exact ⟨p, q, a1, b1, shaped_deep a2 a3, shaped_deep b2 b3, o φ H _ (.refl _ _) rs rep_bl⟩
theorem od_ne (hu : X.A.units + 64 < cLine) : OpD X c (compareOp .NotEq) dNe := fun kk => by
  refine OpR.imp (op_neD hu) fun x y H Q ⟨φ, S, d, e, rs, r1, r2, o⟩ => ?_
  unfold dNe at o
  cases q1 : toPy S deep d with
  | none => simp only [q1] at o; exact o.elim
  | some p =>
    cases q2 : toPy S deep e with
    | none => simp only [q1, q2] at o; exact o.elim
    | some q =>
      simp only [q1, q2] at o
      obtain ⟨a1, a2, a3⟩ := toPy_ok rs _ _ _ _ r1 q1
      obtain ⟨b1, b2, b3⟩ := toPy_ok rs _ _ _ _ r2 q2
      rw [kk] at a1 b1
      exact ⟨p, q, a1, b1, shaped_deep a2 a3, shaped_deep b2 b3, o φ H _ (.refl _ _) rs rep_bl⟩
/-! subscripts -/
def dIx : Op2 := fun d e S => match e with
  | .int i => match d with
    | .tup xs => (atI xs i).map fun v => (v, S)
    | .frl xs => (atI xs i).map fun v => (v, S)
    | .lst l => (S[l]?).bind fun xs => (atI xs i).map fun v => (v, S)
    | .str z => if z.length ≤ most then (atI z.cps.toList i).map fun k => (.str ⟨#[k]⟩, S) else none
    | _ => none
  | _ => none
theorem RepL.at {H : Hp} {φ : List Addr} {ds : List D} {vs : List V} {i : Int} {d : D} (r : RepL c H φ ds vs) (e : atI ds i = some d) : ∃ v, atI vs i = some v ∧ RepV c H φ d v := by
  unfold atI at e ⊢
  rw [r.length] at e
  cases q : ixN vs.length i with
  | none => rw [q] at e; cases e
  | some j =>
    rw [q] at e
    exact r.get e
theorem ixd : IxD X c dIx := fun kk => by
  have h0 : IxR X (fun x y H Q => rIxL X.K x y H Q ∨ rIxT X.K x y H Q ∨ rIxS x y H Q) := ix_seq
  intro value slice pins s σ H x y v u Q I rx ry ⟨φ, S, d, e, rs, r1, r2, o⟩ hs
  refine h0 value slice pins s σ H x y v u Q I rx ry ?_ hs
  cases e <;> first
    | exact False.elim o
    | skip
  rename_i i
  unfold RepV at r2
  subst r2
  cases d <;> first
    | exact False.elim o
    | skip
  · rename_i z
    unfold RepV at r1
    subst r1
    unfold dIx at o
    by_cases hz : z.length ≤ most
    · simp only [if_pos hz] at o
      cases q : atI z.cps.toList i with
      | none => rw [q] at o; exact o.elim
      | some k =>
        rw [q] at o
        exact .inr (.inr ⟨z, i, k, rfl, rfl, most_le hz, q, o φ H _ (.refl _ _) rs rep_str⟩)
    · simp only [if_neg hz] at o
      exact o.elim
  · rename_i xs
    unfold RepV at r1
    obtain ⟨a, us, rfl, h1, h2⟩ := r1
    have o : OutO c H φ (RepV c) ((atI xs i).map fun v => (v, S)) Q := o
    cases q : atI xs i with
    | none => rw [q] at o; exact o.elim
    | some d =>
      rw [q] at o
      obtain ⟨w, g1, g2⟩ := h2.at q
      exact .inr (.inl ⟨a, us, i, w, rfl, rfl, by rw [← kk]; exact h1.sq, g1, o φ H _ (.refl _ _) rs g2⟩)
  · rename_i l
    unfold RepV at r1
    obtain ⟨a, rfl, h1⟩ := r1
    have o : OutO c H φ (RepV c) ((S[l]?).bind fun xs => (atI xs i).map fun v => (v, S)) Q := o
    cases q0 : S[l]? with
    | none => rw [q0] at o; exact o.elim
    | some xs =>
      rw [q0, Option.bind_some] at o
      cases q : atI xs i with
      | none => rw [q] at o; exact o.elim
      | some d =>
        rw [q] at o
        obtain ⟨a', us, g1, g2, g3⟩ := rs.at_ l xs q0
        rw [h1] at g1
        cases g1
        obtain ⟨w, k1, k2⟩ := g3.at q
        exact .inl ⟨a, us, i, w, rfl, rfl, SqL.of g2, k1, o φ H _ (.refl _ _) rs k2⟩
  · rename_i xs
    unfold RepV at r1
    obtain ⟨a, us, rfl, h1, h2⟩ := r1
    have o : OutO c H φ (RepV c) ((atI xs i).map fun v => (v, S)) Q := o
    cases q : atI xs i with
    | none => rw [q] at o; exact o.elim
    | some d =>
      rw [q] at o
      obtain ⟨w, g1, g2⟩ := h2.at q
      exact .inl ⟨a, us, i, w, rfl, rfl, by rw [← kk]; exact h1.sq, g1, o φ H _ (.refl _ _) rs g2⟩
/-! slices -/
def cutD (xs : List D) (lo hi : Option Int) : List D := (xs.drop (HT.sIx xs.length 0 lo)).take (HT.sIx xs.length xs.length hi - HT.sIx xs.length 0 lo)
def dSl (d : D) (lo hi : Option Int) (S : Sto) : Option (D × Sto) := match d with
  | .lst l => (S[l]?).map fun xs => (.lst S.length, S ++ [cutD xs lo hi])
  | .tup xs => some (.tup (cutD xs lo hi), S)
  | _ => none
def eSl (e : Ev) (lo hi : Option Ev) : Ev := fun ρ S => (e ρ S).bind fun d S1 => match lo, hi with
  | none, none => lift (dSl d none none S1)
  | some l, none => (l ρ S1).bind fun x S2 => match x with
    | .int i => lift (dSl d (some i) none S2)
    | _ => .stuck
  | none, some h => (h ρ S1).bind fun y S2 => match y with
    | .int j => lift (dSl d none (some j) S2)
    | _ => .stuck
  | some l, some h => (l ρ S1).bind fun x S2 => match x with
    | .int i => (h ρ S2).bind fun y S3 => match y with
      | .int j => lift (dSl d (some i) (some j) S3)
      | _ => .stuck
    | _ => .stuck
theorem RepL.cut {H : Hp} {φ : List Addr} {ds : List D} {vs : List V} (r : RepL c H φ ds vs) (lo hi : Option Int) : RepL c H φ (cutD ds lo hi) (cutV vs lo hi) := by
  unfold cutD cutV
  rw [r.length]
  exact (r.drop _).take _
theorem sl_read {K : PySem.W.Frag} {d : D} {v : V} {lo hi : Option Int} {H : Hp} {φ : List Addr} {S : Sto} {Q : VK} (kk : c.K = K) (rs : RepS c H φ S) (r : RepV c H φ d v) (o : OutO c H φ (RepV c) (dSl d lo hi S) Q) : rSlL K v lo hi H Q ∨ rSlN K v lo hi H Q := by
  cases d <;> first
    | exact False.elim o
    | skip
  · rename_i xs
    unfold RepV at r
    obtain ⟨a, us, rfl, h1, h2⟩ := r
    have cut := h2.cut lo hi
    refine .inr ⟨a, us, rfl, by rw [← kk]; exact h1.sq, fun hw => ?_, fun _ => new_tup rs cut o⟩
    have ew : cutD xs lo hi = xs := by
      unfold cutD
      rw [h2.length, hw.1, hw.2, List.drop_zero, Nat.sub_zero, ← h2.length, List.take_length]
    have o : OutO c H φ (RepV c) (some (D.tup (cutD xs lo hi), S)) Q := o
    rw [ew] at o
    exact old_tup rs h1 h2 o
  · rename_i l
    unfold RepV at r
    obtain ⟨a, rfl, h1⟩ := r
    have o : OutO c H φ (RepV c) ((S[l]?).map fun xs => (D.lst S.length, S ++ [cutD xs lo hi])) Q := o
    cases q0 : S[l]? with
    | none => rw [q0] at o; exact o.elim
    | some xs =>
      rw [q0] at o
      obtain ⟨a', us, g1, g2, g3⟩ := rs.at_ l xs q0
      rw [h1] at g1
      cases g1
      exact .inl ⟨a, us, rfl, SqL.of g2, new_list rs (g3.cut lo hi) o⟩
theorem slr : SlR X (fun x lo hi H Q => rSlL X.K x lo hi H Q ∨ rSlN X.K x lo hi H Q) := SlR.or sl_list sl_tupN
theorem me_sl {p2 : Pos} (h : ME X c W a ea) : ME X c W (.Subscript a (.Slice none none none p2) pos) (eSl ea none none) := fun s => by
  refine PE.imp (pe_slice slr (h s) po_none po_none) fun σ H Q ⟨φ, ρ, S, re, rs, o⟩ => ?_
  exact ⟨φ, ρ, S, re, rs, Out.bind o fun x S1 φ1 H1 v e1 s1 r1 o1 => sl_read s.kk s1 r1 (OutO.of o1)⟩
theorem me_slL {p2 : Pos} {lo : Expr} {el : Ev} (h : ME X c W a ea) (hl : ME X c W lo el) : ME X c W (.Subscript a (.Slice (some lo) none none p2) pos) (eSl ea (some el) none) := fun s => by
  refine PE.imp (pe_slice slr (h s) (po_some (hl s)) po_none) fun σ H Q ⟨φ, ρ, S, re, rs, o⟩ => ?_
  refine ⟨φ, ρ, S, re, rs, Out.bind o fun x S1 φ1 H1 v e1 s1 r1 o1 => ?_⟩
  refine ⟨φ1, ρ, S1, re.ext rs e1, s1, Out.bind o1 fun y S2 φ2 H2 w e2 s2 r2 o2 => ?_⟩
  cases y <;> first
    | exact False.elim o2
    | skip
  rename_i i
  unfold RepV at r2
  exact ⟨i, r2, sl_read s.kk s2 (RepV.ext s1.ls e2 _ _ r1) (OutO.of o2)⟩
theorem me_slH {p2 : Pos} {hi : Expr} {eh : Ev} (h : ME X c W a ea) (hh : ME X c W hi eh) : ME X c W (.Subscript a (.Slice none (some hi) none p2) pos) (eSl ea none (some eh)) := fun s => by
  refine PE.imp (pe_slice slr (h s) po_none (po_some (hh s))) fun σ H Q ⟨φ, ρ, S, re, rs, o⟩ => ?_
  refine ⟨φ, ρ, S, re, rs, Out.bind o fun x S1 φ1 H1 v e1 s1 r1 o1 => ?_⟩
  refine ⟨φ1, ρ, S1, re.ext rs e1, s1, Out.bind o1 fun y S2 φ2 H2 w e2 s2 r2 o2 => ?_⟩
  cases y <;> first
    | exact False.elim o2
    | skip
  rename_i i
  unfold RepV at r2
  exact ⟨i, r2, sl_read s.kk s2 (RepV.ext s1.ls e2 _ _ r1) (OutO.of o2)⟩
theorem me_slB {p2 : Pos} {lo hi : Expr} {el eh : Ev} (h : ME X c W a ea) (hl : ME X c W lo el) (hh : ME X c W hi eh) : ME X c W (.Subscript a (.Slice (some lo) (some hi) none p2) pos) (eSl ea (some el) (some eh)) := fun s => by
  refine PE.imp (pe_slice slr (h s) (po_some (hl s)) (po_some (hh s))) fun σ H Q ⟨φ, ρ, S, re, rs, o⟩ => ?_
  refine ⟨φ, ρ, S, re, rs, Out.bind o fun x S1 φ1 H1 v e1 s1 r1 o1 => ?_⟩
  refine ⟨φ1, ρ, S1, re.ext rs e1, s1, Out.bind o1 fun y S2 φ2 H2 w e2 s2 r2 o2 => ?_⟩
  cases y <;> first
    | exact False.elim o2
    | skip
  rename_i i
  unfold RepV at r2
  refine ⟨i, r2, φ2, ρ, S2, (re.ext rs e1).ext s1 e2, s2, Out.bind o2 fun y S3 φ3 H3 w e3 s3 r3 o3 => ?_⟩
  cases y <;> first
    | exact False.elim o3
    | skip
  rename_i j
  unfold RepV at r3
  exact ⟨j, r3, sl_read s.kk s3 (RepV.ext s1.ls (e2.trans e3) _ _ r1) (OutO.of o3)⟩
def dRev (d : D) (S : Sto) : Option (D × Sto) := match d with
  | .lst l => (S[l]?).map fun xs => (.lst S.length, S ++ [xs.reverse])
  | _ => none
theorem me_rev {k : Nat} {p1 p2 p3 : Pos} (h : ME X c W a ea) : ME X c W (.Subscript a (.Slice none none (some (.UnaryOp .USub (.Constant (.int 1) k p1) p2)) p3) pos) (eU dRev ea) := fun s => by
  refine PE.imp (pe_revL (h s)) fun σ H Q ⟨φ, ρ, S, re, rs, o⟩ => ?_
  refine ⟨φ, ρ, S, re, rs, Out.bind o fun x S1 φ1 H1 v e1 s1 r1 o1 => ?_⟩
  replace o1 := OutO.of o1
  cases x <;> first
    | exact False.elim o1
    | skip
  rename_i l
  unfold RepV at r1
  obtain ⟨a', rfl, h1⟩ := r1
  have o1 : OutO c H1 φ1 (RepV c) ((S1[l]?).map fun xs => (D.lst S1.length, S1 ++ [xs.reverse])) Q := o1
  cases q0 : S1[l]? with
  | none => rw [q0] at o1; exact o1.elim
  | some xs =>
    rw [q0] at o1
    obtain ⟨a2, us, g1, g2, g3⟩ := s1.at_ l xs q0
    rw [h1] at g1
    cases g1
    exact ⟨a', us, rfl, SqL.of g2, new_list s1 g3.reverse o1⟩
end
end MP
end
section
set_option Elab.async false
set_option linter.all false
set_option maxRecDepth 100000
set_option maxHeartbeats 4000000
/-! MP6: what is built in: calls and methods, on data. -/
namespace MP
open PySem PySem.Spec PyProof.Rows L2

section
variable {X : Cx} {c : Cz} {W : WX} {a b d : Expr} {ea eb ed : Ev} {pos : Pos} {es : List Expr} {ra : EvA} {x : Str} {p : Pos}
abbrev OpL := List D → Sto → Option (D × Sto)
/-- the items of a list or a tuple -/
def itemsOf (d : D) (S : Sto) : Option (List D) := match d with
  | .lst l => S[l]?
  | .tup xs => some xs
  | .frl xs => some xs
  | _ => none
theorem items_at {d : D} {v : V} {xs : List D} {H : Hp} {φ : List Addr} {S : Sto} (rs : RepS c H φ S) (r : RepV c H φ d v) (e : itemsOf d S = some xs) :
    ∃ q us, v = .ref q ∧ RepL c H φ xs us ∧ ((isTup d = false ∧ SqL c.K H q us) ∨ (isTup d = true ∧ SqN c.K H q us)) := by
  cases d <;> first
    | (cases e; done)
    | skip
  · cases e
    unfold RepV at r
    obtain ⟨q, us, rfl, h1, h2⟩ := r
    exact ⟨q, us, rfl, h2, .inr ⟨rfl, h1⟩⟩
  · rename_i l
    unfold RepV at r
    obtain ⟨q, rfl, h1⟩ := r
    obtain ⟨q', us, g1, g2, g3⟩ := rs.at_ l xs e
    rw [h1] at g1
    cases g1
    exact ⟨q, us, rfl, g3, .inl ⟨rfl, SqL.of g2⟩⟩
  · cases e
    unfold RepV at r
    obtain ⟨q, us, rfl, h1, h2⟩ := r
    exact ⟨q, us, rfl, h2, .inl ⟨rfl, h1.sq⟩⟩
theorem CallR.imp {f : Value} {r r' : List V → Hp → VK → Prop} (h : CallR X f r) (k : ∀ x H Q, r' x H Q → r x H Q) : CallR X f r' := fun pins s σ H x u Q I rx q => h pins s σ H x u Q I rx (k _ _ _ q)
theorem CallR.or {f : Value} {r r' : List V → Hp → VK → Prop} (h : CallR X f r) (h' : CallR X f r') : CallR X f (fun x H Q => r x H Q ∨ r' x H Q) := fun pins s σ H x u Q I rx q => by
  rcases q with q | q
  · exact h pins s σ H x u Q I rx q
  · exact h' pins s σ H x u Q I rx q
theorem RepL.one {H : Hp} {φ : List Addr} {d : D} {vs : List V} (r : RepL c H φ [d] vs) : ∃ v, vs = [v] ∧ RepV c H φ d v := by
  unfold RepL at r
  obtain ⟨v, vr, rfl, h1, h2⟩ := r
  unfold RepL at h2
  subst h2
  exact ⟨v, rfl, h1⟩
theorem RepL.two {H : Hp} {φ : List Addr} {d e : D} {vs : List V} (r : RepL c H φ [d, e] vs) : ∃ v w, vs = [v, w] ∧ RepV c H φ d v ∧ RepV c H φ e w := by
  unfold RepL at r
  obtain ⟨v, vr, rfl, h1, h2⟩ := r
  obtain ⟨w, rfl, h3⟩ := RepL.one h2
  exact ⟨v, w, rfl, h1, h3⟩
/-! len -/
def dLen : OpL := fun ds S => match ds with
  | [.str z] => if z.length ≤ most then some (.int z.length, S) else none
  | [d] => (itemsOf d S).map fun xs => (.int xs.length, S)
  | _ => none
theorem cd_len : CallD X c (.builtin "len") dLen := fun kk => by
  refine CallR.imp (CallR.or call_len_seq call_len_str) fun vs H Q ⟨φ, S, ds, rs, r, o⟩ => ?_
  unfold dLen at o
  split at o
  · rename_i z
    obtain ⟨v, rfl, rv⟩ := r.one
    replace r := rv
    unfold RepV at r
    subst r
    by_cases hz : z.length ≤ most
    · rw [if_pos hz] at o
      exact .inr ⟨z, rfl, most_le hz, o φ H _ (.refl _ _) rs rep_int⟩
    · rw [if_neg hz] at o
      exact o.elim
  · rename_i d _
    obtain ⟨v, rfl, rv⟩ := r.one
    replace r := rv
    cases q : itemsOf d S with
    | none => rw [q] at o; exact o.elim
    | some xs =>
      rw [q] at o
      obtain ⟨q', us, rfl, k1, k2⟩ := items_at rs r q
      refine .inl ⟨q', us, rfl, ?_, ?_⟩
      · rw [← kk]
        rcases k2 with ⟨_, k2⟩ | ⟨_, k2⟩
        · exact .inl k2
        · exact .inr k2.sq
      · rw [← k1.length]
        exact o φ H _ (.refl _ _) rs rep_int
  · exact o.elim
/-! list(x), tuple(x) -/
def dListOf : OpL := fun ds S => match ds with
  | [d] => (itemsOf d S).map fun xs => (.lst S.length, S ++ [xs])
  | _ => none
theorem cd_list : CallD X c (.type "list") dListOf := fun kk => by
  refine CallR.imp call_list_of fun vs H Q ⟨φ, S, ds, rs, r, o⟩ => ?_
  unfold dListOf at o
  split at o
  · rename_i d
    obtain ⟨v, rfl, rv⟩ := r.one
    replace r := rv
    cases q : itemsOf d S with
    | none => rw [q] at o; exact o.elim
    | some xs =>
      rw [q] at o
      obtain ⟨q', us, rfl, k1, k2⟩ := items_at rs r q
      refine ⟨q', us, rfl, ?_, new_list rs k1 o⟩
      rw [← kk]
      rcases k2 with ⟨_, k2⟩ | ⟨_, k2⟩
      · exact .inl k2
      · exact .inr k2.sq
  · exact o.elim
def dTupOf : OpL := fun ds S => match ds with
  | [d] => (itemsOf d S).map fun xs => (.tup xs, S)
  | _ => none
theorem cd_tuple : CallD X c (.type "tuple") dTupOf := fun kk => by
  refine CallR.imp call_tupleN fun vs H Q ⟨φ, S, ds, rs, r, o⟩ => ?_
  unfold dTupOf at o
  split at o
  · rename_i d
    obtain ⟨v, rfl, rv⟩ := r.one
    replace r := rv
    cases q : itemsOf d S with
    | none => rw [q] at o; exact o.elim
    | some xs =>
      rw [q] at o
      obtain ⟨q', us, rfl, k1, k2⟩ := items_at rs r q
      refine ⟨q', us, rfl, ?_⟩
      rw [← kk]
      rcases k2 with ⟨_, k2⟩ | ⟨_, k2⟩
      · exact .inl ⟨k2, new_tup rs k1 o⟩
      · exact .inr ⟨k2.sq, old_tup rs k2 k1 o⟩
  · exact o.elim
/-! int(x), abs(x), max, min of two, str of an int -/
def dInt : OpL := fun ds S => match ds with
  | [.int i] => some (.int i, S)
  | [.bl k] => some (.int (if k = true then 1 else 0), S)
  | _ => none
theorem cd_int : CallD X c (.type "int") dInt := fun kk => by
  refine CallR.imp call_int1 fun vs H Q ⟨φ, S, ds, rs, r, o⟩ => ?_
  unfold dInt at o
  split at o
  · obtain ⟨v, rfl, rv⟩ := r.one
    replace r := rv
    unfold RepV at r
    subst r
    exact .inl ⟨_, rfl, o φ H _ (.refl _ _) rs rep_int⟩
  · obtain ⟨v, rfl, rv⟩ := r.one
    replace r := rv
    unfold RepV at r
    subst r
    exact .inr ⟨_, rfl, o φ H _ (.refl _ _) rs rep_int⟩
  · exact o.elim
def dAbs : OpL := fun ds S => match ds with
  | [.int i] => some (.int (i.natAbs : Int), S)
  | _ => none
theorem cd_abs : CallD X c (.builtin "abs") dAbs := fun kk => by
  refine CallR.imp call_abs fun vs H Q ⟨φ, S, ds, rs, r, o⟩ => ?_
  unfold dAbs at o
  split at o
  · rename_i i
    obtain ⟨v, rfl, rv⟩ := r.one
    replace r := rv
    unfold RepV at r
    subst r
    refine ⟨_, rfl, o φ H _ (.refl _ _) rs ?_⟩
    have e : (if i < 0 then -i else i) = (i.natAbs : Int) := by
      split <;> omega
    rw [e]
    exact rep_int
  · exact o.elim
def dMax2 : OpL := fun ds S => match ds with
  | [.int i, .int j] => some (.int (if j > i then j else i), S)
  | _ => none
theorem cd_max2 (hc : X.calm = true) : CallD X c (.builtin "max") dMax2 := fun kk => by
  refine CallR.imp (call_max2 hc) fun vs H Q ⟨φ, S, ds, rs, r, o⟩ => ?_
  unfold dMax2 at o
  split at o
  · obtain ⟨v, w, rfl, r1, r2⟩ := r.two
    unfold RepV at r1 r2
    subst r1 r2
    exact ⟨_, _, rfl, o φ H _ (.refl _ _) rs rep_int⟩
  · exact o.elim
def dMin2 : OpL := fun ds S => match ds with
  | [.int i, .int j] => some (.int (if j < i then j else i), S)
  | _ => none
theorem cd_min2 (hc : X.calm = true) : CallD X c (.builtin "min") dMin2 := fun kk => by
  refine CallR.imp (call_min2 hc) fun vs H Q ⟨φ, S, ds, rs, r, o⟩ => ?_
  unfold dMin2 at o
  split at o
  · obtain ⟨v, w, rfl, r1, r2⟩ := r.two
    unfold RepV at r1 r2
    subst r1 r2
    exact ⟨_, _, rfl, o φ H _ (.refl _ _) rs rep_int⟩
  · exact o.elim
def dStr : OpL := fun ds S => match ds with
  | [.int i] => if i.natAbs.log2 < 1920 then some (.str (toString i), S) else none
  | _ => none
theorem cd_str : CallD X c (.type "str") dStr := fun kk => by
  refine CallR.imp call_str_int fun vs H Q ⟨φ, S, ds, rs, r, o⟩ => ?_
  unfold dStr at o
  split at o
  · rename_i i
    obtain ⟨v, rfl, rv⟩ := r.one
    replace r := rv
    unfold RepV at r
    subst r
    by_cases hz : i.natAbs.log2 < 1920
    · rw [if_pos hz] at o
      exact ⟨_, rfl, hz, o φ H _ (.refl _ _) rs rep_str⟩
    · rw [if_neg hz] at o
      exact o.elim
  · exact o.elim
/-! math.gcd, math.lcm of two -/
def dGcd : OpL := fun ds S => match ds with
  | [.int i, .int j] => some (.int ((Nat.gcd i.natAbs j.natAbs : Nat) : Int), S)
  | _ => none
theorem cd_gcd : CallD X c (.builtin "math.gcd") dGcd := fun kk => by
  refine CallR.imp cr_gcd fun vs H Q ⟨φ, S, ds, rs, r, o⟩ => ?_
  unfold dGcd at o
  split at o
  · obtain ⟨v, w, rfl, r1, r2⟩ := r.two
    unfold RepV at r1 r2
    subst r1 r2
    exact ⟨_, _, rfl, o φ H _ (.refl _ _) rs rep_int⟩
  · exact o.elim
def lcmOk (i j : Int) : Prop := i.natAbs < 2 ^ 13400 ∧ j.natAbs < 2 ^ 13400
noncomputable instance (i j : Int) : Decidable (lcmOk i j) := Classical.propDecidable _
noncomputable def dLcm : OpL := fun ds S => match ds with
  | [.int i, .int j] => if lcmOk i j then some (.int ((Nat.lcm i.natAbs j.natAbs : Nat) : Int), S) else none
  | _ => none
theorem log2_lt_of_pow {n k : Nat} (h : n < 2 ^ k) (h0 : 0 < k) : n.log2 < k := PySem.Flt.log2_lt_of h0 h
theorem cr_lcm : CallR X (.builtin "math.lcm") (fun vs H Q => ∃ i j : Int, vs = [.int i, .int j] ∧ lcmOk i j ∧ Q (.int ((Nat.lcm i.natAbs j.natAbs : Nat) : Int)) H) := by
  intro pins s σ H vs us Q I r ⟨i, j, e, ok, q⟩
  subst e
  obtain ⟨t, u, rfl⟩ := Vals.int2 r
  have g1 : ∀ n : Nat, n < 2 ^ 13400 → ¬ (max 1 n).log2 / 30 + 1 > 450 := fun n hn => by
    have : (max 1 n).log2 < 13400 := log2_lt_of_pow (by
      rcases Nat.le_total 1 n with h | h
      · rw [Nat.max_eq_right h]; exact hn
      · rw [Nat.max_eq_left h]; exact Nat.one_lt_two_pow (by decide)) (by decide)
    omega
  have g2 : ¬ (max i.natAbs j.natAbs).log2 / 30 + 1 > 450 := by
    have : (max i.natAbs j.natAbs).log2 < 13400 := log2_lt_of_pow (by
      rcases Nat.le_total i.natAbs j.natAbs with h | h
      · rw [Nat.max_eq_right h]; exact ok.2
      · rw [Nat.max_eq_left h]; exact ok.1) (by decide)
    omega
  have e1 : (Nat.lcm 1 i.natAbs).lcm j.natAbs = Nat.lcm i.natAbs j.natAbs := by rw [Nat.lcm_one_left]
  have sz : ((((Nat.lcm 1 i.natAbs).lcm j.natAbs : Nat) : Int)).natAbs.log2 < bitsLine := by
    rw [e1, Int.natAbs_natCast]
    have hb : bitsLine = 134217728 := by decide
    have hle : Nat.lcm i.natAbs j.natAbs < 2 ^ 26800 := by
      by_cases hz : i.natAbs = 0
      · rw [hz, Nat.lcm_zero_left]; exact Nat.two_pow_pos _
      by_cases hz2 : j.natAbs = 0
      · rw [hz2, Nat.lcm_zero_right]; exact Nat.two_pow_pos _
      have : Nat.lcm i.natAbs j.natAbs ≤ i.natAbs * j.natAbs := Nat.le_of_dvd (Nat.mul_pos (Nat.pos_of_ne_zero hz) (Nat.pos_of_ne_zero hz2)) (Nat.lcm_dvd (Nat.dvd_mul_right _ _) (Nat.dvd_mul_left _ _))
      refine Nat.lt_of_le_of_lt this ?_
      have e2 : (2 : Nat) ^ 26800 = 2 ^ 13400 * 2 ^ 13400 := by rw [← Nat.pow_add]
      rw [e2]
      exact Nat.mul_lt_mul'' ok.1 ok.2
    have := log2_lt_of_pow hle (by decide)
    omega
  refine call_function_meets PySem.W.MGF.kind_lcm PySem.W.MGF.plain_lcm PySem.W.MGF.entry_lcm (PySem.W.MGF.args_lcm _ _) (PySem.W.mg_run_lcm i t j u (g1 _ ok.1) g2 sz).meets ?_
  rw [e1]
  exact ⟨.int _, H, I.tok _, ⟨_, rfl⟩, q⟩
theorem cd_lcm : CallD X c (.builtin "math.lcm") dLcm := fun kk => by
  refine CallR.imp cr_lcm fun vs H Q ⟨φ, S, ds, rs, r, o⟩ => ?_
  unfold dLcm at o
  split at o
  · rename_i i j
    obtain ⟨v, w, rfl, r1, r2⟩ := r.two
    unfold RepV at r1 r2
    subst r1 r2
    by_cases hz : lcmOk i j
    · rw [if_pos hz] at o
      exact ⟨_, _, rfl, hz, o φ H _ (.refl _ _) rs rep_int⟩
    · rw [if_neg hz] at o
      exact o.elim
  · exact o.elim
/-! sum of ints, all and any of truth values, of a list -/
def intsOf : List D → Option (List Int)
  | [] => some []
  | .int i :: ds => (intsOf ds).map fun is => i :: is
  | _ :: _ => none
def boolsOf : List D → Option (List Bool)
  | [] => some []
  | .bl i :: ds => (boolsOf ds).map fun is => i :: is
  | _ :: _ => none
theorem intsOf_rep {H : Hp} {φ : List Addr} : ∀ {ds : List D} {vs : List V} {is : List Int}, RepL c H φ ds vs → intsOf ds = some is → vs = is.map V.int
  | [], vs, is, r, e => by
    unfold RepL at r
    cases e
    exact r
  | d :: ds, vs, is, r, e => by
    unfold RepL at r
    obtain ⟨v, vr, rfl, r1, r2⟩ := r
    cases d <;> first
      | (cases e; done)
      | skip
    rename_i i
    have e : (intsOf ds).map (fun is => i :: is) = some is := e
    cases q : intsOf ds with
    | none => rw [q] at e; cases e
    | some js =>
      rw [q] at e
      cases e
      unfold RepV at r1
      rw [r1, intsOf_rep r2 q]
      rfl
theorem boolsOf_rep {H : Hp} {φ : List Addr} : ∀ {ds : List D} {vs : List V} {is : List Bool}, RepL c H φ ds vs → boolsOf ds = some is → vs = is.map V.bl
  | [], vs, is, r, e => by
    unfold RepL at r
    cases e
    exact r
  | d :: ds, vs, is, r, e => by
    unfold RepL at r
    obtain ⟨v, vr, rfl, r1, r2⟩ := r
    cases d <;> first
      | (cases e; done)
      | skip
    rename_i i
    have e : (boolsOf ds).map (fun is => i :: is) = some is := e
    cases q : boolsOf ds with
    | none => rw [q] at e; cases e
    | some js =>
      rw [q] at e
      cases e
      unfold RepV at r1
      rw [r1, boolsOf_rep r2 q]
      rfl
def dSum : OpL := fun ds S => match ds with
  | [.lst l] => (S[l]?).bind fun xs => (intsOf xs).map fun is => (.int is.sum, S)
  | _ => none
def dAll : OpL := fun ds S => match ds with
  | [.lst l] => (S[l]?).bind fun xs => (boolsOf xs).map fun is => (.bl (is.all id), S)
  | _ => none
def dAny : OpL := fun ds S => match ds with
  | [.lst l] => (S[l]?).bind fun xs => (boolsOf xs).map fun is => (.bl (is.any id), S)
  | _ => none
theorem lst_at {l : Nat} {v : V} {xs : List D} {H : Hp} {φ : List Addr} {S : Sto} (rs : RepS c H φ S) (r : RepV c H φ (.lst l) v) (e : S[l]? = some xs) : ∃ q us, v = .ref q ∧ φ[l]? = some q ∧ H q = some (.lst us) ∧ RepL c H φ xs us := by
  unfold RepV at r
  obtain ⟨q, rfl, h1⟩ := r
  obtain ⟨q', us, g1, g2, g3⟩ := rs.at_ l xs e
  rw [h1] at g1
  cases g1
  exact ⟨q, us, rfl, h1, g2, g3⟩
theorem cd_sum (hc : X.calm = true) : CallD X c (.builtin "sum") dSum := fun kk => by
  refine CallR.imp (cr_sum hc) fun vs H Q ⟨φ, S, ds, rs, r, o⟩ => ?_
  unfold dSum at o
  split at o
  · rename_i l
    obtain ⟨v, rfl, rv⟩ := r.one
    replace r := rv
    cases q : S[l]? with
    | none => rw [q] at o; exact o.elim
    | some xs =>
      rw [q, Option.bind_some] at o
      cases q2 : intsOf xs with
      | none => rw [q2] at o; exact o.elim
      | some is =>
        rw [q2] at o
        obtain ⟨q', us, rfl, k0, k1, k2⟩ := lst_at rs r q
        exact ⟨q', is, rfl, SqL.of (by rw [k1, intsOf_rep k2 q2]), o φ H _ (.refl _ _) rs rep_int⟩
  · exact o.elim
theorem cd_all (hc : X.calm = true) : CallD X c (.builtin "all") dAll := fun kk => by
  refine CallR.imp (cr_all hc) fun vs H Q ⟨φ, S, ds, rs, r, o⟩ => ?_
  unfold dAll at o
  split at o
  · rename_i l
    obtain ⟨v, rfl, rv⟩ := r.one
    replace r := rv
    cases q : S[l]? with
    | none => rw [q] at o; exact o.elim
    | some xs =>
      rw [q, Option.bind_some] at o
      cases q2 : boolsOf xs with
      | none => rw [q2] at o; exact o.elim
      | some is =>
        rw [q2] at o
        obtain ⟨q', us, rfl, k0, k1, k2⟩ := lst_at rs r q
        exact ⟨q', is, rfl, SqL.of (by rw [k1, boolsOf_rep k2 q2]), o φ H _ (.refl _ _) rs rep_bl⟩
  · exact o.elim
theorem cd_any (hc : X.calm = true) : CallD X c (.builtin "any") dAny := fun kk => by
  refine CallR.imp (cr_any hc) fun vs H Q ⟨φ, S, ds, rs, r, o⟩ => ?_
  unfold dAny at o
  split at o
  · rename_i l
    obtain ⟨v, rfl, rv⟩ := r.one
    replace r := rv
    cases q : S[l]? with
    | none => rw [q] at o; exact o.elim
    | some xs =>
      rw [q, Option.bind_some] at o
      cases q2 : boolsOf xs with
      | none => rw [q2] at o; exact o.elim
      | some is =>
        rw [q2] at o
        obtain ⟨q', us, rfl, k0, k1, k2⟩ := lst_at rs r q
        exact ⟨q', is, rfl, SqL.of (by rw [k1, boolsOf_rep k2 q2]), o φ H _ (.refl _ _) rs rep_bl⟩
  · exact o.elim
/-! isinstance(x, T), T built in -/
def tyName : D → String
  | .non => "NoneType"
  | .bl _ => "bool"
  | .int _ => "int"
  | .str _ => "str"
  | .tup _ => "tuple"
  | .lst _ => "list"
  | .frl _ => "list"
  | .exn .. => ""
  | .wk _ => ""
def dIsi (T : String) : D → Sto → Option (D × Sto) := fun d S => match d with
  | .exn .. => none
  | .wk _ => none
  | _ => (kitB (tyName d) T).map fun k => (.bl k, S)
theorem ty_of {d : D} {v : V} {H : Hp} {φ : List Addr} {S : Sto} (rs : RepS c H φ S) (r : RepV c H φ d v) (n : ∀ a b e, d ≠ .exn a b e) (n2 : ∀ xs, d ≠ .wk xs) : TyX c.K H v (.type (tyName d)) := by
  cases d with
  | non => unfold RepV at r; subst r; exact .base .non
  | bl k => unfold RepV at r; subst r; exact .base (.bl k)
  | int i => unfold RepV at r; subst r; exact .base (.int i)
  | str z => unfold RepV at r; subst r; exact .base (.str z)
  | tup xs =>
    unfold RepV at r
    obtain ⟨q, us, rfl, h1, h2⟩ := r
    rcases h1 with ⟨o, _, h1⟩ | ⟨o, its, n, _, h1, h3, _⟩
    · exact .fTuple h1
    · exact .kTuple h1 h3
  | lst l =>
    unfold RepV at r
    obtain ⟨q, rfl, h1⟩ := r
    obtain ⟨vs, h2⟩ := rs.isl (List.mem_of_getElem? h1)
    exact .base (.lst h2)
  | frl xs =>
    unfold RepV at r
    obtain ⟨q, us, rfl, h1, h2⟩ := r
    rcases h1 with ⟨o, h1⟩ | ⟨o, its, n, h1, h3, _⟩
    · exact .base (.frz h1)
    · exact .kList h1 h3
  | exn a b e => exact absurd rfl (n a b e)
  | wk xs => exact absurd rfl (n2 xs)
theorem me_isi {T : String} {y : Str} {py : Pos} (h : ME X c W a ea) (hm : X.mg "isinstance" = none) (hm2 : X.mg y = none) (hv2 : bootBuiltins y = some (.type T) := by decide +kernel) (hg : Gl X "isinstance" := by rfl) (hg2 : Gl X y := by rfl) (hn2 : y ≠ "__name__" := by decide) (hd2 : (y == ("__debug__" : Str)) = false := by decide)
    (he1 : starEach [a, .Name y py] X.env = (false, eval a X.env) :: starEach [.Name y py] X.env := by rfl) (he2 : starEach [.Name y py] X.env = (false, eval (.Name y py) X.env) :: starEach [] X.env := by rfl) (hpl : (backTo pos (starEach [.Name y py] X.env)).any (·.1) = false := by rfl) :
    ME X c W (.Call (.Name "isinstance" p) [a, .Name y py] [] pos) (eU (dIsi T) ea) := fun s => by
  refine PE.imp (pe_callB call_isi hg hm (by decide +kernel) (pa_cons (h s) (pa_cons (pe_bltn (v := .ty T) hg2 hm2 hv2 rfl hn2 hd2) pa_nil he2) he1) (by decide) (by decide) he1 hpl) fun σ H Q ⟨φ, ρ, S, re, rs, o⟩ => ?_
  refine ⟨φ, ρ, S, re, rs, Out.bind o fun x S1 φ1 H1 v e1 s1 r1 o1 => ?_⟩
  replace o1 := OutO.of o1
  have key : ∀ k, kitB (tyName x) T = some k → (∀ a b e, x ≠ .exn a b e) → (∀ xs, x ≠ .wk xs) → OutO c H1 φ1 (RepV c) (some (D.bl k, S1)) Q → rIsi X.K [v, .ty T] H1 Q := fun k hk hn hn2 o1 =>
    ⟨v, .ty T, _, _, k, rfl, .ty T, by rw [← s.kk]; exact ty_of s1 r1 hn hn2, kit_ty hk, o1 φ1 H1 _ (.refl _ _) s1 rep_bl⟩
  have go : ∀ (hn : ∀ a b e, x ≠ .exn a b e) (hn2 : ∀ xs, x ≠ .wk xs), OutO c H1 φ1 (RepV c) ((kitB (tyName x) T).map fun k => (D.bl k, S1)) Q → rIsi X.K [v, .ty T] H1 Q := fun hn hn2 o1 => by
    cases hq : kitB (tyName x) T with
    | none => rw [hq] at o1; exact o1.elim
    | some k =>
      rw [hq] at o1
      exact key k hq hn hn2 o1
  cases x <;> first
    | exact go (fun _ _ _ q => by cases q) (fun _ q => by cases q) o1
    | exact o1.elim
/-! methods of lists -/
def eMt (g : Nat → List D → Sto → Option (D × Sto)) (eo : Ev) (ra : EvA) : Ev := fun ρ S => (eo ρ S).bind fun d S1 => match d with
  | .lst l => (ra ρ S1).bind fun ds S2 => lift (g l ds S2)
  | _ => .stuck
def eMt0 (g : Nat → List D → Sto → Option (D × Sto)) (eo : Ev) : Ev := fun ρ S => (eo ρ S).bind fun d S1 => match d with
  | .lst l => lift (g l [] S1)
  | _ => .stuck
def MtD (X : Cx) (c : Cz) (id : String) (g : Nat → List D → Sto → Option (D × Sto)) : Prop :=
  c.K = X.K → MtR X id fun v vs H Q => ∃ φ S l ds, RepS c H φ S ∧ RepV c H φ (.lst l) v ∧ RepL c H φ ds vs ∧ OutO c H φ (RepV c) (g l ds S) Q
theorem MtR.imp {id : String} {r r' : V → List V → Hp → VK → Prop} (h : MtR X id r) (k : ∀ v x H Q, r' v x H Q → r v x H Q) : MtR X id r' := fun pins s σ H x xs v us Q I rx rv q => h pins s σ H x xs v us Q I rx rv (k _ _ _ _ q)
theorem me_bm {name : Str} {id : String} {g : Nat → List D → Sto → Option (D × Sto)} {o : Expr} {eo : Ev} {apos : Pos} (slot : Slot "list" name id) (hty : typeOf (.builtin id) = pure (.type "method_descriptor")) (hm : MtD X c id g)
    (ho : ME X c W o eo) (ha : MA X c W (a :: es) ra) (hbase : attributeBase o name X.env (eval o X.env) = eval o X.env := by rfl)
    (hfew : ((backTo pos (starEach (a :: es) X.env)).all (fun x => !x.1) && (backToKw pos (keywordEach [] X.env)).all (fun x => x.1.isSome)
      && decide ((a :: es).length + ([] : List Keyword).length + (if ([] : List Keyword).isEmpty then 0 else 1) < 30)) = true := by rfl)
    (hline : (apos.endLine == pos.line) = true := by rfl) (hs : starEach (a :: es) X.env = (false, eval a X.env) :: starEach es X.env := by rfl) (hpl : (backTo pos (starEach es X.env)).any (·.1) = false := by rfl) :
    ME X c W (.Call (.Attribute o name apos) (a :: es) [] pos) (eMt g eo ra) := fun s => by
  refine PE.imp (pe_bm PySem.F.plainAttrs_list slot hty (hm s.kk) (ho s) (ha s) hbase hfew hline hs hpl) fun σ H Q ⟨φ, ρ, S, re, rs, o⟩ => ?_
  refine ⟨φ, ρ, S, re, rs, Out.bind o fun d S1 φ1 H1 v e1 s1 r1 o1 => ?_⟩
  cases d <;> first
    | exact False.elim o1
    | skip
  rename_i l
  refine ⟨?_, φ1, ρ, S1, re.ext rs e1, s1, Out.bind o1 fun ds S2 φ2 H2 vs e2 s2 r2 o2 => ⟨φ2, S2, l, ds, s2, RepV.ext s1.ls e2 _ _ r1, r2, OutO.of o2⟩⟩
  unfold RepV at r1
  obtain ⟨q, rfl, h1⟩ := r1
  obtain ⟨vs, h2⟩ := s1.isl (List.mem_of_getElem? h1)
  exact .inl ⟨rfl, _, SqL.of h2⟩
theorem me_bm0 {name : Str} {id : String} {g : Nat → List D → Sto → Option (D × Sto)} {o : Expr} {eo : Ev} {apos : Pos} (slot : Slot "list" name id) (hty : typeOf (.builtin id) = pure (.type "method_descriptor")) (hm : MtD X c id g)
    (ho : ME X c W o eo) (hbase : attributeBase o name X.env (eval o X.env) = eval o X.env := by rfl) (hline : (apos.endLine == pos.line) = true := by rfl) :
    ME X c W (.Call (.Attribute o name apos) [] [] pos) (eMt0 g eo) := fun s => by
  refine PE.imp (pe_bm0 PySem.F.plainAttrs_list slot hty (hm s.kk) (ho s) hbase hline) fun σ H Q ⟨φ, ρ, S, re, rs, o⟩ => ?_
  refine ⟨φ, ρ, S, re, rs, Out.bind o fun d S1 φ1 H1 v e1 s1 r1 o1 => ?_⟩
  cases d <;> first
    | exact False.elim o1
    | skip
  rename_i l
  refine ⟨?_, φ1, S1, l, [], s1, r1, .nil, OutO.of o1⟩
  unfold RepV at r1
  obtain ⟨q, rfl, h1⟩ := r1
  obtain ⟨vs, h2⟩ := s1.isl (List.mem_of_getElem? h1)
  exact .inl ⟨rfl, _, SqL.of h2⟩
theorem put_list {φ : List Addr} {H : Hp} {S : Sto} {Q : VK} {xs : List D} {vs : List V} {l : Nat} {q : Addr} {d : D} {v : V} (rs : RepS c H φ S) (hl : φ[l]? = some q) (r : RepL c H φ xs vs) (rv : RepV c H φ d v)
    (o : OutO c H φ (RepV c) (some (d, S.set l xs)) Q) : Q v (upd H q (.lst vs)) := by
  obtain ⟨s2, e2⟩ := rs.write hl r
  exact o φ _ v e2 s2 (RepV.ext rs.ls e2 _ _ rv)
def mAppend (l : Nat) (ds : List D) (S : Sto) : Option (D × Sto) := match ds with
  | [d] => (S[l]?).bind fun xs => if xs.length < most then some (.non, S.set l (xs ++ [d])) else none
  | _ => none
theorem md_append : MtD X c "list.append" mAppend := fun kk => by
  refine MtR.imp mt_append fun v vs H Q ⟨φ, S, l, ds, rs, r0, r, o⟩ => ?_
  unfold mAppend at o
  split at o
  · obtain ⟨w, rfl, rw⟩ := r.one
    cases q : S[l]? with
    | none => rw [q] at o; exact o.elim
    | some xs =>
      rw [q, Option.bind_some] at o
      by_cases hz : xs.length < most
      · rw [if_pos hz] at o
        obtain ⟨q', us, rfl, k0, k1, k2⟩ := lst_at rs r0 q
        exact ⟨q', us, w, rfl, rfl, k1, by rw [← k2.length]; exact most_lt hz, put_list rs k0 (k2.append (.cons rw .nil)) rep_non o⟩
      · rw [if_neg hz] at o
        exact o.elim
  · exact o.elim
def mPopAt (l : Nat) (ds : List D) (S : Sto) : Option (D × Sto) := match ds with
  | [.int i] => if i < 1000000 ∧ -1000000 < i then (S[l]?).bind fun xs => (ixN xs.length i).bind fun k => (xs[k]?).map fun d => (d, S.set l (xs.eraseIdx k)) else none
  | _ => none
theorem md_popAt : MtD X c "list.pop" mPopAt := fun kk => by
  refine MtR.imp mt_popAt fun v vs H Q ⟨φ, S, l, ds, rs, r0, r, o⟩ => ?_
  unfold mPopAt at o
  split at o
  · rename_i i
    obtain ⟨w, rfl, rw⟩ := r.one
    unfold RepV at rw
    subst rw
    by_cases hi : i < 1000000 ∧ -1000000 < i
    case neg => rw [if_neg hi] at o; exact o.elim
    rw [if_pos hi] at o
    cases q : S[l]? with
    | none => rw [q] at o; exact o.elim
    | some xs =>
      rw [q, Option.bind_some] at o
      cases qk : ixN xs.length i with
      | none => rw [qk] at o; exact o.elim
      | some k =>
        rw [qk, Option.bind_some] at o
        cases qd : xs[k]? with
        | none => rw [qd] at o; exact o.elim
        | some d =>
          rw [qd] at o
          obtain ⟨q', us, rfl, k0, k1, k2⟩ := lst_at rs r0 q
          obtain ⟨w, g1, g2⟩ := k2.get qd
          obtain ⟨e1, e2, e3, e4⟩ := ixN_seq qk
          have hl := k2.length
          exact ⟨q', us, i, k, w, rfl, rfl, k1, by omega, by omega, by rw [← hl]; exact e1, g1, put_list rs k0 (k2.eraseIdx k) g2 o⟩
  · exact o.elim
end
end MP
end
section
set_option Elab.async false
set_option linter.all false
set_option maxRecDepth 100000
set_option maxHeartbeats 400000
/-! MP7: stores into lists, in, += ; an error's fields; defs called where an error is handled. -/
namespace MP
open PySem PySem.Spec PyProof.Rows L2

section
variable {X : Cx} {c : Cz} {W : WX} {a b d : Expr} {ea eb ed : Ev} {pos : Pos} {es : List Expr} {ra : EvA} {x : Str} {p : Pos}
/-! o[i] = v -/
def gSet : D → D → D → Sto → Option Sto := fun o i v S => match o, i with
  | .lst l, .int k => (S[l]?).bind fun xs => (ixN xs.length k).map fun j => S.set l (xs.set j v)
  | _, _ => none
theorem sd_list : SetD X c gSet := fun kk => by
  intro pins s σ H o i v ov iv u Q I ro ri rv ⟨φ, S, a, k, d, rs, r1, r2, r3, S', e, q⟩
  refine set_list pins s σ H o i v ov iv u Q I ro ri rv ?_
  cases a <;> first
    | (cases e; done)
    | skip
  rename_i l
  cases k <;> first
    | (cases e; done)
    | skip
  rename_i k
  have e : (S[l]?).bind (fun xs => (ixN xs.length k).map fun j => S.set l (xs.set j d)) = some S' := e
  cases q0 : S[l]? with
  | none => rw [q0] at e; cases e
  | some xs =>
    rw [q0, Option.bind_some] at e
    cases qj : ixN xs.length k with
    | none => rw [qj] at e; cases e
    | some j =>
      rw [qj] at e
      cases e
      obtain ⟨a, us, rfl, k0, k1, k2⟩ := lst_at rs r1 q0
      unfold RepV at r2
      subst r2
      obtain ⟨s2, e2⟩ := rs.write k0 (k2.set j r3)
      exact ⟨a, us, k, j, rfl, rfl, k1, by rw [← k2.length]; exact qj, q _ e2 s2⟩
/-! x += y -/
theorem id_add : IpD X c .Add (dI0 fun i j => .int (i + j)) := fun kk => by
  intro pins s σ H x y v u Q I rx ry ⟨φ, S, d, e, rs, r1, r2, o⟩
  refine ip_add pins s σ H x y v u Q I rx ry ?_
  cases d <;> cases e <;> first
    | exact False.elim o
    | skip
  rename_i i j
  unfold RepV at r1 r2
  exact ⟨i, j, r1, r2, o φ H _ (.refl _ _) rs rep_int⟩
/-! in, not in, index, among flat things -/
def flatD : D → Option V
  | .non => some .non
  | .bl k => some (.bl k)
  | .int i => some (.int i)
  | .str z => some (.str z)
  | _ => none
def flatL : List D → Option (List V)
  | [] => some []
  | d :: ds => (flatD d).bind fun v => (flatL ds).map fun vs => v :: vs
theorem flatD_rep {d : D} {v w : V} {H : Hp} {φ : List Addr} (r : RepV c H φ d v) (e : flatD d = some w) : v = w ∧ flatV w = true := by
  cases d <;> first
    | (cases e; done)
    | (cases e
       unfold RepV at r
       exact ⟨r, rfl⟩)
theorem flatL_rep {H : Hp} {φ : List Addr} : ∀ {ds : List D} {vs ws : List V}, RepL c H φ ds vs → flatL ds = some ws → vs = ws ∧ ws.all flatV = true
  | [], vs, ws, r, e => by
    unfold RepL at r
    cases e
    exact ⟨r, rfl⟩
  | d :: ds, vs, ws, r, e => by
    unfold RepL at r
    obtain ⟨v, vr, rfl, r1, r2⟩ := r
    unfold flatL at e
    cases q1 : flatD d with
    | none => rw [q1] at e; cases e
    | some w =>
      cases q2 : flatL ds with
      | none => rw [q1, q2] at e; cases e
      | some wr =>
        rw [q1, q2] at e
        cases e
        obtain ⟨h1, h2⟩ := flatD_rep r1 q1
        obtain ⟨h3, h4⟩ := flatL_rep r2 q2
        exact ⟨by rw [h1, h3], by simp [h2, h4]⟩
def dIn : Op2 := fun d e S => (itemsOf e S).bind fun xs => (flatD d).bind fun v => (flatL xs).map fun vs => (.bl (inV v vs), S)
def dNotIn : Op2 := fun d e S => (itemsOf e S).bind fun xs => (flatD d).bind fun v => (flatL xs).map fun vs => (.bl (!inV v vs), S)
theorem in_read {neg : Bool} {K : PySem.W.Frag} {d e : D} {x y : V} {H : Hp} {φ : List Addr} {S : Sto} {Q : VK} (kk : c.K = K) (rs : RepS c H φ S) (r1 : RepV c H φ d x) (r2 : RepV c H φ e y)
    (o : OutO c H φ (RepV c) ((itemsOf e S).bind fun xs => (flatD d).bind fun v => (flatL xs).map fun vs => (D.bl (if neg = true then !inV v vs else inV v vs), S)) Q) : rIn K neg x y H Q := by
  cases q0 : itemsOf e S with
  | none => rw [q0] at o; exact o.elim
  | some xs =>
    rw [q0, Option.bind_some] at o
    cases q1 : flatD d with
    | none => rw [q1] at o; exact o.elim
    | some v =>
      rw [q1, Option.bind_some] at o
      cases q2 : flatL xs with
      | none => rw [q2] at o; exact o.elim
      | some vs =>
        rw [q2] at o
        obtain ⟨q, us, rfl, k1, k2⟩ := items_at rs r2 q0
        obtain ⟨h1, h2⟩ := flatD_rep r1 q1
        obtain ⟨h3, h4⟩ := flatL_rep k1 q2
        subst h1 h3
        refine ⟨q, us, rfl, ?_, h2, h4, o φ H _ (.refl _ _) rs rep_bl⟩
        rw [← kk]
        rcases k2 with ⟨_, k2⟩ | ⟨_, k2⟩
        · exact .inl k2
        · exact .inr k2.sq
theorem od_in : OpD X c (compareOp .In) dIn := fun kk => OpR.imp op_in_seq fun x y H Q ⟨φ, S, d, e, rs, r1, r2, o⟩ => in_read (neg := false) kk rs r1 r2 o
theorem od_notIn : OpD X c (compareOp .NotIn) dNotIn := fun kk => OpR.imp op_notIn_seq fun x y H Q ⟨φ, S, d, e, rs, r1, r2, o⟩ => in_read (neg := true) kk rs r1 r2 o
/-- the first place of a flat thing -/
def ixOf (v : V) : List V → Option Nat
  | [] => none
  | w :: ws => if eqV w v = true then some 0 else (ixOf v ws).map (· + 1)
theorem ixOf_some {v : V} : ∀ {ws : List V} {j : Nat}, ixOf v ws = some j → ∃ z, ws[j]? = some z ∧ eqV z v = true ∧ ∀ (m : Nat) (z' : V), m < j → ws[m]? = some z' → eqV z' v = false
  | [], j, h => by cases h
  | w :: ws, j, h => by
    unfold ixOf at h
    by_cases hw : eqV w v = true
    · rw [if_pos hw] at h
      cases h
      exact ⟨w, rfl, hw, fun m z' hm => by omega⟩
    · rw [if_neg hw] at h
      cases q : ixOf v ws with
      | none => rw [q] at h; cases h
      | some k =>
        rw [q] at h
        cases h
        obtain ⟨z, h1, h2, h3⟩ := ixOf_some q
        refine ⟨z, by simpa using h1, h2, fun m z' hm hz => ?_⟩
        cases m with
        | zero =>
          simp at hz
          subst hz
          exact Bool.eq_false_iff.mpr hw
        | succ m =>
          have hm : m + 1 < k + 1 := hm
          exact h3 m z' (by omega) (by simpa using hz)
def mIndex (l : Nat) (ds : List D) (S : Sto) : Option (D × Sto) := match ds with
  | [d] => (S[l]?).bind fun xs => (flatD d).bind fun v => (flatL xs).bind fun vs => (ixOf v vs).map fun j => (.int (j : Nat), S)
  | _ => none
theorem md_index : MtD X c "list.index" mIndex := fun kk => by
  refine MtR.imp mt_index fun v vs H Q ⟨φ, S, l, ds, rs, r0, r, o⟩ => ?_
  unfold mIndex at o
  split at o
  · rename_i d
    obtain ⟨w, rfl, rw'⟩ := r.one
    cases q : S[l]? with
    | none => rw [q] at o; exact o.elim
    | some xs =>
      rw [q, Option.bind_some] at o
      cases q1 : flatD d with
      | none => rw [q1] at o; exact o.elim
      | some v =>
        rw [q1, Option.bind_some] at o
        cases q2 : flatL xs with
        | none => rw [q2] at o; exact o.elim
        | some vs =>
          rw [q2, Option.bind_some] at o
          cases q3 : ixOf v vs with
          | none => rw [q3] at o; exact o.elim
          | some j =>
            rw [q3] at o
            obtain ⟨q', us, rfl, k0, k1, k2⟩ := lst_at rs r0 q
            obtain ⟨h1, h2⟩ := flatD_rep rw' q1
            obtain ⟨h3, h4⟩ := flatL_rep k2 q2
            subst h1 h3
            obtain ⟨z, g1, g2, g3⟩ := ixOf_some q3
            exact ⟨q', us, w, j, z, rfl, rfl, SqL.of k1, h2, h4, g1, g2, g3, o φ H _ (.refl _ _) rs rep_int⟩
  · exact o.elim
def mInsert (l : Nat) (ds : List D) (S : Sto) : Option (D × Sto) := match ds with
  | [.int i, d] => (S[l]?).bind fun xs => if xs.length < most ∧ 0 ≤ i ∧ i < 1000000 then some (.non, S.set l (xs.take i.toNat ++ [d] ++ xs.drop i.toNat)) else none
  | _ => none
theorem md_insert : MtD X c "list.insert" mInsert := fun kk => by
  refine MtR.imp mt_insert fun v vs H Q ⟨φ, S, l, ds, rs, r0, r, o⟩ => ?_
  unfold mInsert at o
  split at o
  · rename_i i d
    obtain ⟨w1, w2, rfl, r1, r2⟩ := r.two
    unfold RepV at r1
    subst r1
    cases q : S[l]? with
    | none => rw [q] at o; exact o.elim
    | some xs =>
      rw [q, Option.bind_some] at o
      by_cases hz : xs.length < most ∧ 0 ≤ i ∧ i < 1000000
      · rw [if_pos hz] at o
        obtain ⟨q', us, rfl, k0, k1, k2⟩ := lst_at rs r0 q
        exact ⟨q', us, i, w2, rfl, rfl, k1, by rw [← k2.length]; exact most_lt hz.1, hz.2.1, by omega, put_list rs k0 (((k2.take _).append (.cons r2 .nil)).append (k2.drop _)) rep_non o⟩
      · rw [if_neg hz] at o
        exact o.elim
  · exact o.elim
def mExtend (l : Nat) (ds : List D) (S : Sto) : Option (D × Sto) := match ds with
  | [.lst m] => (S[l]?).bind fun xs => (S[m]?).bind fun ys => if xs.length + ys.length ≤ most then some (.non, S.set l (xs ++ ys)) else none
  | _ => none
theorem md_extend : MtD X c "list.extend" mExtend := fun kk => by
  refine MtR.imp mt_extend fun v vs H Q ⟨φ, S, l, ds, rs, r0, r, o⟩ => ?_
  unfold mExtend at o
  split at o
  · rename_i m
    obtain ⟨w, rfl, rw'⟩ := r.one
    cases q : S[l]? with
    | none => rw [q] at o; exact o.elim
    | some xs =>
      rw [q, Option.bind_some] at o
      cases q2 : S[m]? with
      | none => rw [q2] at o; exact o.elim
      | some ys =>
        rw [q2, Option.bind_some] at o
        by_cases hz : xs.length + ys.length ≤ most
        · rw [if_pos hz] at o
          obtain ⟨q', us, rfl, k0, k1, k2⟩ := lst_at rs r0 q
          obtain ⟨q'', ws, rfl, k3, k4, k5⟩ := lst_at rs rw' q2
          exact ⟨q', q'', us, ws, rfl, rfl, k1, k4, by rw [← k2.length, ← k5.length]; exact most_le hz, put_list rs k0 (k2.append k5) rep_non o⟩
        · rw [if_neg hz] at o
          exact o.elim
  · exact o.elim

/-! ### an error's field, in the suite -/
def fieldOf (f : Str) : List Str → List D → Option D
  | n :: ns, d :: ds => if f == n then some d else fieldOf f ns ds
  | _, _ => none
def eXf (n f : Str) (e : Ev) : Ev := fun ρ S => (e ρ S).bind fun d S1 => match d with
  | .exn m ns ds => if m = n then (match fieldOf f ns ds with
    | some d => .ok d S1
    | none => .stuck) else .stuck
  | _ => .stuck
theorem fieldOf_at {f : Str} {H : Hp} {φ : List Addr} : ∀ {ns : List Str} {ds : List D} {vs : List V} {d : D}, ns.length = vs.length → RepL c H φ ds vs → fieldOf f ns ds = some d → ∃ v, (ns.zip vs).lookup f = some v ∧ RepV c H φ d v
  | [], ds, vs, d, hl, r, e => by unfold fieldOf at e; cases e
  | n :: ns, [], vs, d, hl, r, e => by unfold fieldOf at e; cases e
  | n :: ns, d0 :: ds, vs, d, hl, r, e => by
    unfold RepL at r
    obtain ⟨v, vr, rfl, r1, r2⟩ := r
    unfold fieldOf at e
    show ∃ w, List.lookup f ((n, v) :: ns.zip vr) = some w ∧ _
    by_cases hf : (f == n) = true
    · rw [if_pos hf] at e
      cases e
      exact ⟨v, by simp [List.lookup, hf], r1⟩
    · rw [if_neg hf] at e
      obtain ⟨w, h1, h2⟩ := fieldOf_at (by simpa using hl) r2 e
      refine ⟨w, ?_, h2⟩
      have hf' : (f == n) = false := by simpa using hf
      simp only [List.lookup, hf', h1]
theorem me_xf {Y : Cx} {ad C dx : Addr} {oe : Obj} {cls : Value} {pn : List (Addr × Obj)} {n f : Str} {e : Expr} {ee : Ev} (T : XfC Y.K C) (hm : Y.mg n = some (.ref C)) (hno : PySem.W.findIn Y.K (.ref C) f = some none)
    (hz : Zc cls (some dx) oe) (hf : ∃ vs, oe.data = .fields vs) (he : ME (Y.suite ad ((ad, oe) :: pn)) (c.hot ad cls dx) W e ee) (hb : attributeBase e f Y.env (eval e Y.env) = eval e Y.env := by rfl) :
    ME (Y.suite ad ((ad, oe) :: pn)) (c.hot ad cls dx) W (.Attribute e f pos) (eXf n f ee) := fun s => by
  refine PE.imp (pe_xf T hno hz hf (he s) hb) fun σ H Q ⟨φ, ρ, S, re, rs, o⟩ => ?_
  refine ⟨φ, ρ, S, re, rs, Out.bind o fun x S1 φ1 H1 v e1 s1 r1 o1 => ?_⟩
  cases x <;> first
    | exact False.elim o1
    | skip
  rename_i m ns ds
  unfold RepV at r1
  obtain ⟨a', cls', d', vs, rfl, hx, hmg, hd, hl, rl⟩ := r1
  cases hx
  by_cases hn : m = n
  · subst hn
    simp only [if_true] at o1
    have hcls : cls = .ref C := by
      have h2 : Y.mg m = some cls := by rw [← s.mm]; exact hmg
      rw [hm] at h2
      exact (Option.some.inj h2).symm
    cases q : fieldOf f ns ds with
    | none => simp only [q] at o1; exact o1.elim
    | some dd =>
      simp only [q] at o1
      obtain ⟨w, k1, k2⟩ := fieldOf_at hl rl q
      exact ⟨rfl, hcls, dx, _, w, rfl, hd, k1, o1 φ1 H1 _ (.refl _ _) s1 k2⟩
  · simp only [if_neg hn] at o1
    exact o1.elim

/-! ### a def that raises nothing, called where an error is handled -/
structure RoomC (k : Nat) (A : Around) : Prop where
  dp : A.depth + 3 * k + 5 < recursionLimit
  un : A.units + 16 * k + 200 < cLine
theorem RoomC.mono {j k : Nat} {A : Around} (r : RoomC k A) (h : j ≤ k) : RoomC j A := ⟨by have := r.dp; omega, by have := r.un; omega⟩
theorem RoomC.into {k : Nat} {A : Around} (r : RoomC (k + 1) A) (env : PySem.Env) : RoomC k (A.deeper env) := by
  have d := r.dp
  have u := r.un
  constructor
  · show A.depth + 1 + 3 * k + 5 < recursionLimit
    omega
  · show A.units + 3 + 16 * k + 200 < cLine
    omega
theorem Room.hot {k : Nat} {A : Around} (r : Room k A) (v : Option Value) : RoomC k (A.mark v) := ⟨r.dp, r.un⟩
theorem RoomC.u64 {k : Nat} {A : Around} (r : RoomC k A) : A.units + 64 < cLine := by have := r.un; omega
theorem Room.u64 {k : Nat} {A : Around} (r : Room k A) : A.units + 64 < cLine := by have := r.un; omega
/-- as FnOk, whatever is handled; no error leaves -/
structure FnC (P : Program) (w : World) (K : PySem.W.Frag) (mg : Str → Option Value) (base : Heap) (k : Nat) (f : Addr) (fd : FuncData) (ps : List Str) (sp : Sp) : Prop where
  len : ∀ vs H Q E, sp vs H Q E → vs.length = ps.length
  run : ∀ (A : Around) (outer : List PySem.Env) (s : Shared) (H : Hp) (args : Args) (us : List Value) (vs : List V) (Q : VK), RoomC k A → Env0 P w K mg base A outer s H → BindsTo s fd args (ps.zip us) → Vals vs us → sp vs H Q E0 →
    codeAny (model P w) A (.call (.ref f) args) (CR CX0 outer P w H s Q E0) s
def cxC (P : Program) (w : World) (K : PySem.W.Frag) (mg : Str → Option Value) (base : Heap) (N : List Str) (qual : Str) (scope : Scope) (f : Addr) (cd : Value) (A : Around) (outer : List PySem.Env) (s : Shared) (H : Hp) : Cx :=
  { cxOf CX0 P w K mg base N qual scope f cd A outer s H E0 with calm := false, xe := fun _ _ => False }
/-- A without what is handled -/
def cool (A : Around) : Around := { A with handled := none }
theorem inv_startC {P : Program} {w : World} {K : PySem.W.Frag} {mg : Str → Option Value} {base : Heap} {N ps : List Str} {qual : Str} {scope : Scope} {f : Addr} {cd : Value} {A : Around} {outer : List PySem.Env} {s s1 : Shared} {H : Hp} {us : List Value} {vs : List V}
    (S : FnScope N ps scope) (e0 : Env0 P w K mg base A outer s H) (hl : vs.length = ps.length) (r : Vals vs us)
    (x : InCallC s s.heap.objs.size (bindL (envOfC qual scope s.heap.objs.size f cd).kindOf (ps.zip us) fun _ => none) (cellsFrom (s.heap.objs.size + 1) scope.names []) (bindC (envOfC qual scope s.heap.objs.size f cd).kindOf (ps.zip us) fun _ => none) s1) :
    Inv (cxC P w K mg base N qual scope f cd A outer s H) [] (L2.start N vs) H s1 := by
  have e1 : Env0 P w K mg base (cool A) outer s H := ⟨e0.frames, e0.mod, e0.bs, e0.bsz, e0.funs, e0.frf, e0.hok, e0.bare⟩
  have J : Inv (cxOf CX0 P w K mg base N qual scope f cd (cool A) outer s H E0) [] (L2.start N vs) H s1 := inv_start S rfl e1 hl r x
  have fr : (cxC P w K mg base N qual scope f cd A outer s H).A.frames = some (envOfC qual scope s.heap.objs.size f cd :: outer) := Around.frames_deeper e0.frames
  have ok := J.ok
  exact ⟨⟨ok.mod, ok.kind, ok.glob, ok.blt, ok.above, ok.inj, ok.has, ok.cab, (fun z => Bool.noConfusion (show false = true from z)), fr, ok.stk, ok.exf, ok.bs, ok.bsz, ok.noex, ok.exfs, ok.funs, ok.frf⟩, J.os, J.bare, J.base, J.loc, J.cell, J.free, J.freeC, J.pin, J.hok, J.len⟩
theorem fn_ofC {P : Program} {w : World} {K : PySem.W.Frag} {mg : Str → Option Value} {base : Heap} {k : Nat} {f : Addr} {name qual : Str} {params : Arguments} {body : List Stmt} {scope : Scope} {dV kV doc pm cdv ct oc : Value} {an od : Option Addr}
    {osl : Array (Option Value)} {N ps : List Str} {sp : Sp} (lk : K.lookup f = some ⟨oc, od, .func (PySem.W.fnOf name qual params body scope dV kV doc pm an cdv ct), osl⟩) (hcd : PySem.W.codeIn K cdv qual = true) (S : FnScope N ps scope)
    (len : ∀ vs H Q E, sp vs H Q E → vs.length = ps.length)
    (hbody : ∀ (A : Around) (outer : List PySem.Env) (s : Shared) (H : Hp) (vs : List V) (Q : VK), RoomC k (A.deeper (envOfC qual scope s.heap.objs.size f cdv)) → sp vs H Q E0 →
      ∃ t, PSs (cxC P w K mg base N qual scope f cdv A outer s H) body t ∧ t { nx := fun _ H' => Q .non H', rt := Q } (L2.start N vs) H) :
    FnC P w K mg base (k + 1) f (PySem.W.fnOf name qual params body scope dV kV doc pm an cdv ct) ps sp := by
  constructor
  · exact len
  intro A outer s H args us vs Q hr e0 hb r hsp
  have hl := len _ _ _ _ hsp
  have stays : ∀ b o, base.get? b = some o → s.heap.get? b = some o := fun b o e => (e0.bs b o e).1
  have KX : K.In s.heap := e0.mod.kin.keeps stays
  have kinds : ∀ y ∈ ps.zip us, scope.names.lookup y.1 = some .local ∨ (scope.names.lookup y.1 = some .cell ∧ ((cellsFrom (s.heap.objs.size + 1) scope.names []).lookup y.1).isSome = true) := by
    rintro ⟨n, v⟩ hy
    exact (S.par n (List.of_mem_zip hy).1).imp id fun q => ⟨q, PySem.W.cellsFrom_some _ _ _ (.inl q)⟩
  have dpt : A.depth < recursionLimit := by have := hr.dp; omega
  refine codeAny_call_function dpt (KX _ _ lk) rfl S.co S.gen rfl (PySem.W.codeRec_of KX hcd) (hb _ _ _ _ (wpAny_newFunctionEnv_cells S.kind kinds fun env he s1 x => ?_))
  subst he
  refine ⟨(e0.mod.nolimit.keeps stays).keeps x.toInCall.keep, codeAny_func ?_⟩
  obtain ⟨t, ht, hq⟩ := hbody A outer s H vs Q (hr.into _) hsp
  have I := inv_startC (P := P) (w := w) (K := K) (mg := mg) (base := base) (A := A) (H := H) S e0 hl r x
  refine wpAny_mono (ht.run [] s1 (L2.start N vs) H _ I hq) (fun fl s' hs => ?_) fun e s' hs => False.elim hs
  cases fl with
  | ret u =>
    obtain ⟨v, σ', H', J, rv, q⟩ := hs
    exact ⟨v, H', J.os, J.bare, J.base, J.hok, rv, q⟩
  | next =>
    obtain ⟨σ', H', J, q⟩ := hs
    exact ⟨V.non, H', J.os, J.bare, J.base, J.hok, rfl, q⟩
  | brk =>
    obtain ⟨_, _, _, q⟩ := hs
    exact q.elim
  | cont =>
    obtain ⟨_, _, _, q⟩ := hs
    exact q.elim
theorem def_okC {P : Program} {w : World} {K : PySem.W.Frag} {mg : Str → Option Value} {base : Heap} {x qual : Str} {st : Stmt} {f : Addr} {fd : FuncData} {N ps : List Str} {k : Nat} {ev : Es} (c : Cz) (hcK : c.K = K) (hcm : c.mg = mg) (F : Fun K x qual st f fd) (S : FnScope N ps (defScope st))
    (hb : ∀ (cdv : Value) (A : Around) (outer : List PySem.Env) (s : Shared) (H : Hp), RoomC k (A.deeper (envOfC qual (defScope st) s.heap.objs.size f cdv)) → MSs (cxC P w K mg base N qual (defScope st) f cdv A outer s H) c W0 (defBody st) ev) :
    FnC P w K mg base (k + 1) f fd ps (spEv c ps.length (runDef N.length ev)) := by
  obtain ⟨oc, od, kV, doc, pm, an, cdv, ct, osl, rfl, lk, hcd⟩ := F.ex
  refine fn_ofC lk hcd S (fun vs H Q E h => h.1) fun A outer s H vs Q hr h => ?_
  refine ⟨_, hb cdv A outer s H hr ⟨hcK, hcm, takes0, PassesOwn.never, S.nd⟩, ?_⟩
  obtain ⟨_, φ, ds, S0, r, rs, o⟩ := h
  refine ⟨φ, begins N.length ds, S0, begins_rep r, rs, ?_⟩
  have o : Out c H φ (RepV c) (flowRes (ev (begins N.length ds) S0)) Q E0 := o
  revert o
  cases ev (begins N.length ds) S0 with
  | next ρ S => intro o φ' H' σ' e s r; exact o φ' H' .non e s rep_non
  | brk ρ S => intro o; exact o.elim
  | cont ρ S => intro o; exact o.elim
  | ret d S => intro o φ' H' v e s r; exact o φ' H' v e s r
  | exc n ns ds ρ S => intro o φ' H' σ' cls dx vs e s r m1 m2 m3 m4; exact o φ' H' cls dx vs e s m1 m2 m3 m4
  | stuck => intro o; exact o.elim
theorem me_callC {k : Nat} {f : Addr} {fd : FuncData} {ps : List Str} {rf : List D → Sto → Res D} (F : FnC X.prog X.w X.K X.mg X.base k f fd ps (spEv c ps.length rf)) (hr : RoomC k X.A) (hm : X.mg x = some (.ref f)) (hk : PySem.W.keepIn X.K (.ref f) = true) (hb : Binds X.K fd ps []) (ha : MA X c W0 (a :: es) ra) (hg : Gl X x := by rfl)
    (hdb : (x == ("__debug__" : Str)) = false := by decide) (he : starEach (a :: es) X.env = (false, eval a X.env) :: starEach es X.env := by rfl) (hpl : (backTo pos (starEach es X.env)).any (·.1) = false := by rfl) :
    ME X c W0 (.Call (.Name x p) (a :: es) [] pos) (eCall ps.length rf ra) := fun s => by
  constructor
  intro pins s0 σ H Q I ⟨φ, ρ, S, re, rs, o⟩
  apply wpAny_Call_Name_kw (ld_glob I hg hm ?_ hdb)
  apply PySem.W.callWith_K (h₀ := X.base) I.ok.mod.kin hk (thn ((ha s).run pos pins s0 σ H (fun vs H1 => spEv c ps.length rf vs H1 Q E0) I ?_) ?_) he hpl
  · refine ⟨φ, ρ, S, re, rs, Out.bind o fun xs S1 φ1 H1 vs e1 s1 r1 o1 => ?_⟩
    split at o1
    · rename_i hl
      exact ⟨by rw [← r1.length]; exact hl, φ1, xs, S1, r1, s1, o1⟩
    · exact o1.elim
  · rintro us s1 ⟨vs, H1, I1, r, q⟩
    refine ⟨I1.kIn, ?_⟩
    have hl : us.length = ps.length := by rw [← r.length]; exact F.len _ _ _ _ q
    have bnd := hb s1 us I1.kIn (by rw [List.append_nil]; exact hl)
    rw [List.append_nil] at bnd
    apply wpAny_call
    apply codeAny_mono (F.run X.A X.stack s1 H1 ⟨us, []⟩ us vs Q hr I1.env0 bnd r q)
    intro res s' hq
    match res, hq with
    | .ok (.ret _), hq => exact I1.after hq
    | .error e, hq => exact hq.elim
end
end MP
end
section
set_option Elab.async false
set_option linter.all false
set_option maxRecDepth 100000
set_option maxHeartbeats 400000
/-! MP8: defs by their names; the errors' classes; the law's end. -/
namespace MP
open PySem PySem.Spec PyProof.Rows L2

/-- a def of the text at its name -/
structure OkD (P : Program) (w : World) (K : PySem.W.Frag) (mg : Str → Option Value) (base : Heap) (k : Nat) (x : Str) (st : Stmt) (ps : List Str) (rf : List D → Sto → Res D) : Prop where
  gm : mg x = some (.ref (He.ga K x))
  ex : ∃ fd, Fun K x x st (He.ga K x) fd ∧ FnOk P w K mg base (L2.CX P w) k (He.ga K x) fd ps (spEv ⟨K, mg, none⟩ ps.length rf) ∧ Binds K fd ps []
/-- .. called where an error is handled -/
structure OkC (P : Program) (w : World) (K : PySem.W.Frag) (mg : Str → Option Value) (base : Heap) (k : Nat) (x : Str) (st : Stmt) (ps : List Str) (rf : List D → Sto → Res D) : Prop where
  gm : mg x = some (.ref (He.ga K x))
  ex : ∃ fd, Fun K x x st (He.ga K x) fd ∧ (∀ xc, FnC P w K mg base k (He.ga K x) fd ps (spEv ⟨K, mg, xc⟩ ps.length rf)) ∧ Binds K fd ps []
section
variable {P : Program} {w : World} {K : PySem.W.Frag} {mg : Str → Option Value} {base : Heap} {k : Nat} {x : Str} {st : Stmt} {N ps : List Str} {ev : Es} {rf : List D → Sto → Res D}
abbrev BindOk (x : Str) (st : Stmt) (ps : List Str) : Prop :=
  ∀ (kV doc pm : Value) (an : Option Addr) (cdv ct : Value) (us : List Value), us.length = ps.length → bindArgs (PySem.W.fnOf x x (defArgs st) (defBody st) (defScope st) .none kV doc pm an cdv ct) ⟨us, []⟩ = pure (ps.zip us)
theorem okd (hg : mg x = some (.ref (He.ga K x))) (F : ∃ fd, Fun K x x st (He.ga K x) fd) (S : FnScope N ps (defScope st)) (hbind : BindOk x st ps)
    (hb : ∀ (cdv : Value) (A : Around) (outer : List PySem.Env) (s : Shared) (H : Hp) (E : XK), Room k (A.deeper (envOfC x (defScope st) s.heap.objs.size (He.ga K x) cdv)) →
      MSs (cxOf (L2.CX P w) P w K mg base N x (defScope st) (He.ga K x) cdv A outer s H E) ⟨K, mg, none⟩ (fun cls d _ H => E cls d H) (defBody st) ev) : OkD P w K mg base (k + 1) x st ps (runDef N.length ev) := by
  obtain ⟨fd, F⟩ := F
  exact ⟨hg, fd, F, def_ok ⟨K, mg, none⟩ rfl rfl F S hb, F.binds hbind⟩
theorem okc (hg : mg x = some (.ref (He.ga K x))) (F : ∃ fd, Fun K x x st (He.ga K x) fd) (S : FnScope N ps (defScope st)) (hbind : BindOk x st ps)
    (hb : ∀ (xc : Option (Addr × Value × Addr)) (cdv : Value) (A : Around) (outer : List PySem.Env) (s : Shared) (H : Hp), RoomC k (A.deeper (envOfC x (defScope st) s.heap.objs.size (He.ga K x) cdv)) →
      MSs (cxC P w K mg base N x (defScope st) (He.ga K x) cdv A outer s H) ⟨K, mg, xc⟩ W0 (defBody st) ev) : OkC P w K mg base (k + 1) x st ps (runDef N.length ev) := by
  obtain ⟨fd, F⟩ := F
  exact ⟨hg, fd, F, fun xc => def_okC ⟨K, mg, xc⟩ rfl rfl F S (hb xc), F.binds hbind⟩
/-- a def whose run is nowhere told -/
theorem okd_stuck (hg : mg x = some (.ref (He.ga K x))) (F : ∃ fd, Fun K x x st (He.ga K x) fd) (hbind : BindOk x st ps) : OkD P w K mg base k x st ps (fun _ _ => .stuck) := by
  obtain ⟨fd, F⟩ := F
  exact ⟨hg, fd, F, ⟨fun vs H Q E h => h.1, fun A outer s H args us vs Q E hr e0 hb r h => by
    obtain ⟨_, φ, ds, S, _, _, o⟩ := h
    exact o.elim⟩, F.binds hbind⟩
theorem OkD.up {j : Nat} (h : OkD P w K mg base j x st ps rf) (hjk : j ≤ k) : OkD P w K mg base k x st ps rf := by
  obtain ⟨hg, fd, F, ok, bd⟩ := h
  exact ⟨hg, fd, F, ok.mono hjk, bd⟩
end
section
variable {X : Cx} {W : WX} {a b d : Expr} {pos : Pos} {es : List Expr} {ra rk : EvA} {x : Str} {p : Pos} {st : Stmt} {ps : List Str} {rf : List D → Sto → Res D} {k : Nat} {K : PySem.W.Frag} {mg : Str → Option Value}
theorem me_fn (T : OkD X.prog X.w X.K X.mg X.base k x st ps rf) (hr : Room k X.A) (ha : MA X ⟨X.K, X.mg, none⟩ W (a :: es) ra) (hg : Gl X x := by rfl)
    (hdb : (x == ("__debug__" : Str)) = false := by decide) (he : starEach (a :: es) X.env = (false, eval a X.env) :: starEach es X.env := by rfl) (hpl : (backTo pos (starEach es X.env)).any (·.1) = false := by rfl) :
    ME X ⟨X.K, X.mg, none⟩ W (.Call (.Name x p) (a :: es) [] pos) (eCall ps.length rf ra) := by
  obtain ⟨gm, fd, F, ok, bd⟩ := T
  exact me_call ok hr gm F.kp bd ha hg hdb he hpl
theorem me_fnC {xc : Option (Addr × Value × Addr)} (T : OkC X.prog X.w X.K X.mg X.base k x st ps rf) (hr : RoomC k X.A) (ha : MA X ⟨X.K, X.mg, xc⟩ W0 (a :: es) ra) (hg : Gl X x := by rfl)
    (hdb : (x == ("__debug__" : Str)) = false := by decide) (he : starEach (a :: es) X.env = (false, eval a X.env) :: starEach es X.env := by rfl) (hpl : (backTo pos (starEach es X.env)).any (·.1) = false := by rfl) :
    ME X ⟨X.K, X.mg, xc⟩ W0 (.Call (.Name x p) (a :: es) [] pos) (eCall ps.length rf ra) := by
  obtain ⟨gm, fd, F, ok, bd⟩ := T
  exact me_callC (ok xc) hr gm F.kp bd ha hg hdb he hpl
/-- keywords: pm puts the positional values and the keywords' values in the parameters' order -/
structure Perm (n m : Nat) (pm : {α : Type} → List α → List α → List α) : Prop where
  vals : ∀ {vs zs : List V} {us ws : List Value}, vs.length = n → zs.length = m → Vals vs us → Vals zs ws → Vals (pm vs zs) (pm us ws)
  rep : ∀ {c : Cz} {H : Hp} {φ : List Addr} {ds es : List D} {vs zs : List V}, vs.length = n → zs.length = m → RepL c H φ ds vs → RepL c H φ es zs → RepL c H φ (pm ds es) (pm vs zs)
abbrev KwOk (x : Str) (st : Stmt) (ps ks : List Str) (n : Nat) (pm : {α : Type} → List α → List α → List α) : Prop :=
  ∀ (kV doc pm' : Value) (an : Option Addr) (cdv ct : Value) (us ws : List Value), us.length = n → ws.length = ks.length → bindArgs (PySem.W.fnOf x x (defArgs st) (defBody st) (defScope st) .none kV doc pm' an cdv ct) ⟨us, ks.zip ws⟩ = pure (ps.zip (pm us ws))
theorem kwB_of {fd : FuncData} {f : Addr} {ks : List Str} {n : Nat} {pm : {α : Type} → List α → List α → List α} (F : Fun K x x st f fd) (hp : Perm n ks.length pm) (hk : KwOk x st ps ks n pm) : KwB K fd ps ks n pm pm pm := by
  obtain ⟨oc, od, kV, doc, pm', an, cdv, ct, osl, rfl, lk, hcd⟩ := F.ex
  exact ⟨fun s us ws h1 h2 => .of_eq (hk kV doc pm' an cdv ct us ws h1 h2), fun h1 h2 => hp.vals h1 h2, fun h1 h2 => hp.rep h1 h2⟩
theorem me_fnK {kws : List Keyword} {ks : List Str} {n : Nat} {pm : {α : Type} → List α → List α → List α} (T : OkD X.prog X.w X.K X.mg X.base k x st ps rf) (hr : Room k X.A) (hp : Perm n ks.length pm) (hkw : KwOk x st ps ks n pm)
    (ha : MA X ⟨X.K, X.mg, none⟩ W (a :: es) ra) (hk : MK X ⟨X.K, X.mg, none⟩ W kws rk) (hg : Gl X x := by rfl) (hall : (backToKw pos (keywordEach kws X.env)).all (·.1.isSome) = true := by rfl) (hks : (backToKw pos (keywordEach kws X.env)).filterMap (·.1) = ks := by rfl)
    (hdb : (x == ("__debug__" : Str)) = false := by decide) (he : starEach (a :: es) X.env = (false, eval a X.env) :: starEach es X.env := by rfl)
    (hpl : ((backTo pos (starEach (a :: es) X.env)).any (·.1) || (backToKw pos (keywordEach kws X.env)).any (·.1.isNone)) = false := by rfl) :
    ME X ⟨X.K, X.mg, none⟩ W (.Call (.Name x p) (a :: es) kws pos) (eKw n ks.length ps.length pm rf ra rk) := by
  obtain ⟨gm, fd, F, ok, bd⟩ := T
  exact me_callK ok hr gm F.kp (kwB_of F hp hkw) ha hk hg hall hks hdb he hpl
theorem me_fnK0 {kws : List Keyword} {ks : List Str} {pm : {α : Type} → List α → List α → List α} (T : OkD X.prog X.w X.K X.mg X.base k x st ps rf) (hr : Room k X.A) (hp : Perm 0 ks.length pm) (hkw : KwOk x st ps ks 0 pm)
    (hk : MK X ⟨X.K, X.mg, none⟩ W kws rk) (hg : Gl X x := by rfl) (hall : (backToKw pos (keywordEach kws X.env)).all (·.1.isSome) = true := by rfl) (hks : (backToKw pos (keywordEach kws X.env)).filterMap (·.1) = ks := by rfl)
    (hdb : (x == ("__debug__" : Str)) = false := by decide)
    (hpl : ((backTo pos (starEach [] X.env)).any (·.1) || (backToKw pos (keywordEach kws X.env)).any (·.1.isNone)) = false := by rfl) :
    ME X ⟨X.K, X.mg, none⟩ W (.Call (.Name x p) [] kws pos) (eKw 0 ks.length ps.length pm rf aNil rk) := by
  obtain ⟨gm, fd, F, ok, bd⟩ := T
  exact me_callK0 ok hr gm F.kp (kwB_of F hp hkw) hk hg hall hks hdb hpl
end
/-! usual orders -/
def pm01 {α : Type} (_ ws : List α) : List α := ws
def pm10 {α : Type} (_ ws : List α) : List α := match ws with
  | [b, a] => [a, b]
  | _ => []
theorem perm_01 {m : Nat} : Perm 0 m pm01 := ⟨fun _ _ _ r => r, fun _ _ _ r => r⟩
theorem perm_10 : Perm 0 2 pm10 where
  vals := fun {vs zs us ws} _ h2 _ r => by
    match zs, h2, r with
    | [b, a], _, .cons r1 (.cons r2 .nil) => exact .cons r2 (.cons r1 .nil)
  rep := fun {c H φ ds es vs zs} _ h2 _ r => by
    match zs, h2 with
    | [b, a], _ =>
      have hl := r.length
      match es, hl with
      | [e1, e2], _ =>
        obtain ⟨v, w, e, r1, r2⟩ := r.two
        cases e
        exact .cons r2 (.cons r1 .nil)

end MP
end
section
set_option Elab.async false
set_option linter.all false
set_option maxRecDepth 100000
set_option maxHeartbeats 400000
/-! MP9: the errors' classes; what the head tells; the law's end. -/
namespace MP
open PySem PySem.Spec PyProof.Rows L2

/-! ### what the head tells of an error's class -/
def clsB (K : PySem.W.Frag) (C : Addr) : Bool := match K.lookup C with
  | some ⟨.type "type", _, .cls cd, sl⟩ => (match cd.mro, sl.toList with
    | .ref C' :: bm, [_, _, _, _, some (.builtin n), _] => decide (C' = C) && (decide (n = "ValueError.__new__") && (!cd.hasDel && (cd.hasDict && PySem.HandSPX.refsVE bm)))
    | _, _ => false)
  | _ => false
theorem clsB_ok {K : PySem.W.Frag} {C : Addr} (h : clsB K C = true) : ∃ nm q N bs bm sn sub ab col dd k0 k1 k2 k3 k5, K.lookup C = some (excClassObj nm q C N bs bm true sn sub ab col dd k0 k1 k2 k3 k5 "ValueError.__new__") ∧ PySem.HandSPX.refsVE bm = true := by
  unfold clsB at h
  split at h
  · rename_i dd cd sl ho
    split at h
    · rename_i C' bm k0 k1 k2 k3 n k5 hm hs
      simp only [Bool.and_eq_true, decide_eq_true_eq, Bool.not_eq_true'] at h
      obtain ⟨rfl, rfl, hdel, hdct, hv⟩ := h
      obtain ⟨nm, bs, mro, ns, qn, hd, sn, sub, ab, col, del⟩ := cd
      dsimp only at hm hdel hdct
      subst hm hdel hdct
      have hsl : sl = #[k0, k1, k2, k3, some (.builtin "ValueError.__new__"), k5] := Array.toList_inj.mp (by rw [hs])
      subst hsl
      exact ⟨nm, qn, ns, bs, bm, sn, sub, ab, col, dd, k0, k1, k2, k3, k5, ho, hv⟩
    · cases h
  · cases h
def eqOO (a b : Option (Option Value)) : Bool := decide (a = b)
def errB (x : Str) (fs : List Str) (K : PySem.W.Frag) : Bool :=
  clsB K (He.ga K x) && (decide (PySem.W.findIn K (.ref (He.ga K x)) "__setattr__" = some (some (.builtin "object.__setattr__"))) && (decide (PySem.W.subIn K (.ref (He.ga K x)) (.type "BaseException") = some true) &&
  (decide (PySem.W.typeIn K (.ref (He.ga K x)) = some (.type "type")) && (PySem.W.keepIn K (.ref (He.ga K x)) && (decide (PySem.W.findIn K (.ref (He.ga K x)) "__init__" = some (some (.ref (He.ma K (He.ga K x) "__init__")))) &&
  (decide (PySem.W.typeIn K (.ref (He.ma K (He.ga K x) "__init__")) = some (.type "function")) && (xfB K (He.ga K x) && (fs.all (fun f => decide (PySem.W.findIn K (.ref (He.ga K x)) f = some none)) && decide (PySem.W.nsIn K mainGlobals x = some (some (.ref (He.ga K x))))))))))))
structure ErrK (K : PySem.W.Frag) (x : Str) (fs : List Str) : Prop where
  ox : OexC K (He.ga K x)
  iC : PySem.W.findIn K (.ref (He.ga K x)) "__init__" = some (some (.ref (He.ma K (He.ga K x) "__init__")))
  tI : PySem.W.typeIn K (.ref (He.ma K (He.ga K x) "__init__")) = some (.type "function")
  xf : XfC K (He.ga K x)
  no : ∀ f ∈ fs, PySem.W.findIn K (.ref (He.ga K x)) f = some none
  ns : PySem.W.nsIn K mainGlobals x = some (some (.ref (He.ga K x)))
theorem errB_ok {x : Str} {fs : List Str} {K : PySem.W.Frag} (h : errB x fs K = true) : ErrK K x fs := by
  unfold errB at h
  simp only [Bool.and_eq_true, decide_eq_true_eq, List.all_eq_true] at h
  obtain ⟨h1, h2, h3, h4, h5, h6, h7, h8, h9, h10⟩ := h
  exact ⟨⟨clsB_ok h1, h2, h3, h4, h5⟩, h6, h7, xfB_ok h8, h9, h10⟩
/-- an error of the text at its name -/
structure OkE (P : Program) (w : World) (K : PySem.W.Frag) (mg : Str → Option Value) (base : Heap) (x : Str) (fs : List Str) : Prop where
  gm : mg x = some (.ref (He.ga K x))
  er : ErrK K x fs
  ex : ∃ fd, FnOk P w K mg base CX0 1 (He.ma K (He.ga K x) "__init__") fd ("self" :: fs) (spIni (He.ga K x) fs) ∧ Binds K fd ("self" :: fs) []
section
variable {P : Program} {w : World} {K : PySem.W.Frag} {mg : Str → Option Value} {base : Heap} {x q : Str} {st : Stmt} {f : Addr} {fd : FuncData}
theorem vis_of {N ps : List Str} {sc : Scope} (S : FnScope N ps sc) {y : Str} (h : y ∈ ps) : Vis sc y := (S.par y h).imp id .inl
theorem ini2 {f1 f2 : Str} (F : Fun K "__init__" q st f fd) (S : FnScope ["self", f1, f2] ["self", f1, f2] (defScope st)) (E : ErrK K x [f1, f2])
    (hbd : ∃ a1 a2 a3 a4 b1 b2 b3 b4 : Pos, defBody st = [.Assign [.Attribute (.Name "self" a1) f1 a2] (.Name f1 a3) a4, .Assign [.Attribute (.Name "self" b1) f2 b2] (.Name f2 b3) b4])
    (d1 : (f1 == ("__debug__" : Str)) = false := by decide) (c1 : (f1 == ("__classdict__" : Str)) = false := by decide) (d2 : (f2 == ("__debug__" : Str)) = false := by decide) (c2 : (f2 == ("__classdict__" : Str)) = false := by decide) :
    FnOk P w K mg base CX0 1 f fd ["self", f1, f2] (spIni (He.ga K x) [f1, f2]) := by
  obtain ⟨a1, a2, a3, a4, b1, b2, b3, b4, hbd⟩ := hbd
  refine F.ok S (fun vs H Q E h => ?_) (fun cdv A outer s H vs Q E' hr h => ?_)
  · obtain ⟨a, ws, rfl, hl, _⟩ := h
    simp [hl]
  · obtain ⟨a, ws, rfl, hl, ha, k⟩ := h
    match ws, hl with
    | [v1, v2], _ =>
      rw [hbd]
      have vs0 : Vis (defScope st) "self" := vis_of S (by simp)
      have vs1 : Vis (defScope st) f1 := vis_of S (by simp)
      have vs2 : Vis (defScope st) f2 := vis_of S (by simp)
      refine ⟨_, pss_cons (ps_ost (pe_var (i := 0) rfl vs0) (pe_var (i := 1) rfl vs1 d1 c1)) (pss_one (ps_ost (pe_var (i := 0) rfl vs0) (pe_var (i := 2) rfl vs2 d2 c2))), ?_⟩
      refine ⟨v1, rfl, .ref a, rfl, a, He.ga K x, rfl, E.ox, E.no f1 (by simp), .inl ⟨ha, fun dx hdx hne => ?_⟩⟩
      refine ⟨v2, rfl, .ref a, rfl, a, He.ga K x, rfl, E.ox, E.no f2 (by simp), .inr ⟨dx, [(f1, v1)], upd_same, by rw [upd_ne hne]; exact upd_same, (by show 1 ≤ 900; decide), ?_⟩⟩
      refine k dx _ hdx hne ?_ upd_same fun b o hb e => ?_
      · rw [upd_ne (Ne.symm hne)]
        exact upd_same
      · rw [upd_ne (ne_of_none e hdx), upd_ne hb, upd_ne (ne_of_none e hdx)]
        exact e
theorem ini1 {f1 : Str} (F : Fun K "__init__" q st f fd) (S : FnScope ["self", f1] ["self", f1] (defScope st)) (E : ErrK K x [f1])
    (hbd : ∃ a1 a2 a3 a4 : Pos, defBody st = [.Assign [.Attribute (.Name "self" a1) f1 a2] (.Name f1 a3) a4])
    (d1 : (f1 == ("__debug__" : Str)) = false := by decide) (c1 : (f1 == ("__classdict__" : Str)) = false := by decide) :
    FnOk P w K mg base CX0 1 f fd ["self", f1] (spIni (He.ga K x) [f1]) := by
  obtain ⟨a1, a2, a3, a4, hbd⟩ := hbd
  refine F.ok S (fun vs H Q E h => ?_) (fun cdv A outer s H vs Q E' hr h => ?_)
  · obtain ⟨a, ws, rfl, hl, _⟩ := h
    simp [hl]
  · obtain ⟨a, ws, rfl, hl, ha, k⟩ := h
    match ws, hl with
    | [v1], _ =>
      rw [hbd]
      have vs0 : Vis (defScope st) "self" := vis_of S (by simp)
      have vs1 : Vis (defScope st) f1 := vis_of S (by simp)
      refine ⟨_, pss_one (ps_ost (pe_var (i := 0) rfl vs0) (pe_var (i := 1) rfl vs1 d1 c1)), ?_⟩
      refine ⟨v1, rfl, .ref a, rfl, a, He.ga K x, rfl, E.ox, E.no f1 (by simp), .inl ⟨ha, fun dx hdx hne => ?_⟩⟩
      refine k dx _ hdx hne upd_same ?_ fun b o hb e => ?_
      · rw [upd_ne hne]
        exact upd_same
      · rw [upd_ne hb, upd_ne (ne_of_none e hdx)]
        exact e
end
section
variable {X : Cx} {c : Cz} {W : WX} {a b d : Expr} {ea eb ed : Ev} {pos : Pos} {es : List Expr} {ra : EvA} {x : Str} {p cp : Pos}
theorem ms_err {fs : List Str} (T : OkE X.prog X.w X.K X.mg X.base x fs) (hr : Room 2 X.A) (ha : MA X c W (a :: es) ra) (hg : Gl X x := by rfl) (hc : X.calm = true := by rfl)
    (hdb : (x == ("__debug__" : Str)) = false := by decide) (he : starEach (a :: es) X.env = (false, eval a X.env) :: starEach es X.env := by rfl) (hpl : (backTo cp (starEach es X.env)).any (·.1) = false := by rfl) :
    MS X c W (.Raise (some (.Call (.Name x p) (a :: es) [] cp)) none pos) (sRaise x fs ra) := by
  obtain ⟨gm, er, fd, ok, bd⟩ := T
  exact ms_raise ⟨er.ox, gm, er.iC, er.tI, ok, bd⟩ hr ha hg hc hdb he hpl
end

/-- a handler of one class -/
def dec1 (x : Str) : Str → Option Bool := fun m => if m = x then some true else none
theorem dec1_ok {K : PySem.W.Frag} {mg : Str → Option Value} {x : Str} {C : Addr} (h : PySem.W.exmOne K (.ref C) (.ref C) = some true) (hg : mg x = some (.ref C)) :
    ∀ (m : Str) (b : Bool) (cls : Value), dec1 x m = some b → mg m = some cls → PySem.W.exmOne K cls (.ref C) = some b := fun m b cls e hm => by
  unfold dec1 at e
  split at e
  · rename_i hx
    subst hx
    cases e
    rw [hg] at hm
    cases hm
    exact h
  · cases e

/-! ### the head's facts -/
/-- a def without defaults -/
theorem fun_of {K : PySem.W.Frag} {x q : Str} {st : Stmt} {f : Addr} {fd : FuncData} (F : FunD K x q (defArgs st) (defBody st) (defScope st) [] [] f fd) : Fun K x q st f fd := by
  obtain ⟨⟨oc, od, dV, kV, doc, pm, an, cdv, ct, osl, e, lk, hcd, hD, hK⟩, kp⟩ := F
  rcases hD with ⟨_, rfl⟩ | ⟨h, _⟩
  · exact ⟨⟨oc, od, kV, doc, pm, an, cdv, ct, osl, e, lk, hcd⟩, kp⟩
  · exact absurd rfl h
def freeB (xs : List Str) (K : PySem.W.Frag) : Bool := xs.all fun x => decide (PySem.W.nsIn K mainGlobals x = some none)
def gloB (xs : List Str) (K : PySem.W.Frag) : Bool := xs.all fun x => decide (PySem.W.nsIn K mainGlobals x = some (some (.ref (He.ga K x))))
def bltB (xs : List (Str × String)) (K : PySem.W.Frag) : Bool := xs.all fun p => decide (PySem.W.nsIn K mainGlobals p.1 = some (some (.builtin p.2)))
def exmB (xs : List (Str × Str × Bool)) (K : PySem.W.Frag) : Bool := xs.all fun p => decide (PySem.W.exmOne K (.ref (He.ga K p.1)) (.ref (He.ga K p.2.1)) = some p.2.2)
theorem free_of {xs : List Str} {K : PySem.W.Frag} {h : Heap} {mg : Str → Option Value} (X : K.In h) (G : h.Ns mainGlobals mg) (c : freeB xs K = true) {x : Str} (hx : x ∈ xs) : mg x = none :=
  PySem.W.mg_none_of X G (of_decide_eq_true (List.all_eq_true.mp c x hx))
theorem glo_of {xs : List Str} {K : PySem.W.Frag} {h : Heap} {mg : Str → Option Value} (X : K.In h) (G : h.Ns mainGlobals mg) (c : gloB xs K = true) {x : Str} (hx : x ∈ xs) : mg x = some (.ref (He.ga K x)) :=
  PySem.W.mg_of X G (of_decide_eq_true (List.all_eq_true.mp c x hx))
theorem blt_of {xs : List (Str × String)} {K : PySem.W.Frag} {h : Heap} {mg : Str → Option Value} (X : K.In h) (G : h.Ns mainGlobals mg) (c : bltB xs K = true) {x : Str} {i : String} (hx : (x, i) ∈ xs) : mg x = some (.builtin i) :=
  PySem.W.mg_of X G (of_decide_eq_true (List.all_eq_true.mp c (x, i) hx))
theorem exm_of {xs : List (Str × Str × Bool)} {K : PySem.W.Frag} (c : exmB xs K = true) {x y : Str} {b : Bool} (hx : (x, y, b) ∈ xs) : PySem.W.exmOne K (.ref (He.ga K x)) (.ref (He.ga K y)) = some b :=
  of_decide_eq_true (List.all_eq_true.mp c (x, y, b) hx)
/-- the Hook: the defs, and one Bool of the part that is kept -/
abbrev AlM : Type := He.AlD × Bool
def partM (g : Addr → Option Obj) (n : Nat) : PySem.W.Frag := He.frG g (He.asD g n)
def obsM (n : Nat) (fn : List He.DefD) (ex : PySem.W.Frag → Bool) (g : Addr → Option Obj) : AlM := (He.obsD [] fn (partM g n), ex (partM g n))
structure SaysM (fn : List He.DefD) (ex : PySem.W.Frag → Bool) (K : PySem.W.Frag) : Prop where
  defs : He.SaysD [] fn K
  more : ex K = true
theorem saysM_of {n : Nat} {fn : List He.DefD} {ex : PySem.W.Frag → Bool} {g : Addr → Option Obj} (e : obsM n fn ex g = (He.valD fn, true)) : SaysM fn ex (partM g n) :=
  ⟨congrArg (fun z : AlM => z.1) e, congrArg (fun z : AlM => z.2) e⟩
def hookM (n : Nat) (fn : List He.DefD) (ex : PySem.W.Frag → Bool) : PySem.W.Hook where
  α := AlM
  obs := fun s => obsM n fn ex s.heap.get?
  val := fun _ => (He.valD fn, true)
  says := fun _ h => ∃ K : PySem.W.Frag, K.In h ∧ SaysM fn ex K
  of := fun _ _ e => ⟨_, He.frG_in, saysM_of e⟩
  keeps := fun _ _ _ ⟨K, hK, c⟩ k => ⟨K, PySem.W.Frag.In.keeps hK k, c⟩
theorem obsM_eq {n : Nat} {fn : List He.DefD} {ex : PySem.W.Frag → Bool} {g : Addr → Option Obj} {s : Shared} (h : ∀ a, g a = s.heap.get? a) : obsM n fn ex g = (hookM n fn ex).obs s := by
  have e : g = s.heap.get? := funext h
  rw [e]
  exact rfl
/-! ### the end -/
theorem frz_of {K : PySem.W.Frag} {H : Hp} {a : Addr} {xs : List V} (hO : Only H) (h : SqL K H a xs) : Frz K H a xs := by
  rcases h with (h | ⟨o, h⟩) | h
  · rcases hO a with e | ⟨o, ys, e⟩
    · rw [e] at h; cases h
    · rw [e] at h; cases h
  · exact .inl ⟨o, h⟩
  · exact .inr h
theorem ints_rep {c : Cz} {H : Hp} {φ : List Addr} : ∀ ns : List Int, RepL c H φ (ns.map D.int) (ns.map V.int)
  | [] => .nil
  | n :: ns => .cons rep_int (ints_rep ns)
/-- the law's promise, from what its function on data gives -/
theorem law_sp {K : PySem.W.Frag} {mg : Str → Option Value} {rf : List D → Sto → Res D} {ns : List Int} {H : Hp} {a : Addr} (hO : Only H) (hS : SqL K H a (ns.map V.int)) (h : ∃ S, rf [.frl (ns.map D.int)] [] = .ok (.bl true) S) :
    spEv ⟨K, mg, none⟩ 1 rf [.ref a] H (fun v _ => v = .bl true) fun _ _ _ => False := by
  obtain ⟨S, e⟩ := h
  refine ⟨rfl, [], [.frl (ns.map D.int)], [], .cons ?_ .nil, ⟨List.nodup_nil, rfl, fun l xs h => by simp at h⟩, ?_⟩
  · unfold RepV
    exact ⟨a, _, rfl, frz_of hO hS, ints_rep ns⟩
  · rw [e]
    intro φ' H' v _ _ r
    unfold RepV at r
    exact r
theorem walk_bits {l : PySem.W.OpenLaw} {n k : Nat} {q : Program} {loose : List Str} {XP : (Str → Option Value) → Heap → Prop} {YP : World → Heap → Prop} {d : DefRec} {x : Str}
    (hn : l.most = some n) (hn2 : n ≤ sizeLine) (hdf : d.params.defaults = []) (hr : Room k callerA)
    (F : ∀ (w : World) (mg : Str → Option Value) (fa : Addr) (h : Heap), YP w h → h.Ns mainGlobals mg → mg d.name = some (.ref fa) →
      ∃ (K : PySem.W.Frag) (fd : FuncData) (sp : Sp), K.In h ∧ (∀ (s : Shared) (u : Value), BindsTo s fd ⟨[u], []⟩ [(x, u)]) ∧
        (∀ (H : Hp) (a : Addr) (ns : List Int), ns.length ≤ n → (∀ z ∈ ns, Builtin.Int.intBits z ≤ 1048576) → Only H → SqL K H a (ns.map V.int) → sp [.ref a] H (fun v _ => v = .bl true) fun _ _ _ => False) ∧
        ∀ base : Heap, K.In base → base.Ns mainGlobals mg → FnOk l.prog w K mg base (L2.CX l.prog w) k fa fd [x] sp) :
    PySem.W.WalkO q loose XP YP l.row.toRowW d [] (fun f vs => PySem.call f vs) := by
  refine Att.attach_callB hn hdf fun w s₀ s₁ mg mb fa o pm cd doc a vs ns G Y ho hd hcd hmg hobj hints hlen hbits hg => ?_
  obtain ⟨K, fd, sp, KX, hb, hsp, hF⟩ := F w mg fa _ Y G.T.g hmg
  refine law_call KX G.T.g G.T.b G.T.builtins G.T.nolimit hg hobj hints (Nat.le_trans hlen hn2) hr hF hb (fun H hO hS => hsp H a ns hlen hbits hO hS) fun H e s' z => ?_
  obtain ⟨_, _, _, _, _, _, _, _, _, _, _, _, z⟩ := z
  exact z.elim
end MP
end
section
set_option Elab.async false
set_option linter.all false
set_option maxRecDepth 100000
set_option maxHeartbeats 400000
/-! MPC: contracts: a def's evaluator may be stood for by a simpler function, up to lists that are not kept and a new numbering. -/
namespace MP
open PySem PySem.Spec PyProof.Rows L2

mutual
def Below (n : Nat) : D → Prop
  | .lst l => l < n
  | .tup ds => BelowL n ds
  | .wk ds => BelowL n ds
  | .frl ds => BelowL n ds
  | .exn _ _ ds => BelowL n ds
  | .non => True
  | .bl _ => True
  | .int _ => True
  | .str _ => True
def BelowL (n : Nat) : List D → Prop
  | [] => True
  | d :: ds => Below n d ∧ BelowL n ds
end
/-! the new number of a list, in new and old data -/
mutual
def Rn (κ : List Nat) : D → D → Prop
  | .lst l, e => ∃ k, e = .lst k ∧ κ[l]? = some k
  | .tup ds, e => ∃ es, e = .tup es ∧ RnL κ ds es
  | .wk ds, e => ∃ es, e = .wk es ∧ RnL κ ds es
  | .frl ds, e => ∃ es, e = .frl es ∧ RnL κ ds es
  | .exn n ns ds, e => ∃ es, e = .exn n ns es ∧ RnL κ ds es
  | .non, e => e = .non
  | .bl b, e => e = .bl b
  | .int i, e => e = .int i
  | .str x, e => e = .str x
def RnL (κ : List Nat) : List D → List D → Prop
  | [], es => es = []
  | d :: ds, es => ∃ e er, es = e :: er ∧ Rn κ d e ∧ RnL κ ds er
end
mutual
theorem Below.mono {n m : Nat} (h : n ≤ m) : ∀ d : D, Below n d → Below m d
  | .lst l, q => by unfold Below at q ⊢; omega
  | .tup ds, q => by unfold Below at q ⊢; exact BelowL.mono h ds q
  | .wk ds, q => by unfold Below at q ⊢; exact BelowL.mono h ds q
  | .frl ds, q => by unfold Below at q ⊢; exact BelowL.mono h ds q
  | .exn _ _ ds, q => by unfold Below at q ⊢; exact BelowL.mono h ds q
  | .non, _ => by unfold Below; trivial
  | .bl _, _ => by unfold Below; trivial
  | .int _, _ => by unfold Below; trivial
  | .str _, _ => by unfold Below; trivial
theorem BelowL.mono {n m : Nat} (h : n ≤ m) : ∀ ds : List D, BelowL n ds → BelowL m ds
  | [], _ => by unfold BelowL; trivial
  | d :: ds, q => by
    unfold BelowL at q ⊢
    exact ⟨Below.mono h d q.1, BelowL.mono h ds q.2⟩
end
mutual
theorem Rn.same {n : Nat} {κ : List Nat} (h : ∀ i, i < n → κ[i]? = some i) : ∀ d : D, Below n d → Rn κ d d
  | .lst l, q => by
    unfold Below at q
    unfold Rn
    exact ⟨l, rfl, h l q⟩
  | .tup ds, q => by
    unfold Below at q
    unfold Rn
    exact ⟨ds, rfl, RnL.same h ds q⟩
  | .wk ds, q => by
    unfold Below at q
    unfold Rn
    exact ⟨ds, rfl, RnL.same h ds q⟩
  | .frl ds, q => by
    unfold Below at q
    unfold Rn
    exact ⟨ds, rfl, RnL.same h ds q⟩
  | .exn _ _ ds, q => by
    unfold Below at q
    unfold Rn
    exact ⟨ds, rfl, RnL.same h ds q⟩
  | .non, _ => by unfold Rn; rfl
  | .bl _, _ => by unfold Rn; rfl
  | .int _, _ => by unfold Rn; rfl
  | .str _, _ => by unfold Rn; rfl
theorem RnL.same {n : Nat} {κ : List Nat} (h : ∀ i, i < n → κ[i]? = some i) : ∀ ds : List D, BelowL n ds → RnL κ ds ds
  | [], _ => by unfold RnL; rfl
  | d :: ds, q => by
    unfold BelowL at q
    unfold RnL
    exact ⟨d, ds, rfl, Rn.same h d q.1, RnL.same h ds q.2⟩
end
section
variable {c : Cz} {H : Hp} {φ φ2 : List Addr} {κ : List Nat}
mutual
theorem RepV.below : ∀ (d : D) (v : V), RepV c H φ d v → Below φ.length d
  | .lst l, v, h => by
    unfold RepV at h
    obtain ⟨a, _, e⟩ := h
    unfold Below
    exact (List.getElem?_eq_some_iff.mp e).1
  | .tup ds, v, h => by
    unfold RepV at h
    obtain ⟨a, xs, _, _, e⟩ := h
    unfold Below
    exact RepL.below ds xs e
  | .wk ds, v, h => by
    unfold RepV at h
    obtain ⟨a, xs, _, _, e⟩ := h
    unfold Below
    exact RepL.below ds xs e
  | .frl ds, v, h => by
    unfold RepV at h
    obtain ⟨a, xs, _, _, e⟩ := h
    unfold Below
    exact RepL.below ds xs e
  | .exn _ _ ds, v, h => by
    unfold RepV at h
    obtain ⟨a, cls, d, vs, _, _, _, _, _, e⟩ := h
    unfold Below
    exact RepL.below ds vs e
  | .non, _, _ => by unfold Below; trivial
  | .bl _, _, _ => by unfold Below; trivial
  | .int _, _, _ => by unfold Below; trivial
  | .str _, _, _ => by unfold Below; trivial
theorem RepL.below : ∀ (ds : List D) (vs : List V), RepL c H φ ds vs → BelowL φ.length ds
  | [], _, _ => by unfold BelowL; trivial
  | d :: ds, _, h => by
    unfold RepL at h
    obtain ⟨v, vr, _, h2, h3⟩ := h
    unfold BelowL
    exact ⟨RepV.below d v h2, RepL.below ds vr h3⟩
end
mutual
theorem RepV.rn (hκ : ∀ (i k : Nat), κ[i]? = some k → φ2[i]? = φ[k]?) : ∀ (d e : D) (v : V), Rn κ d e → RepV c H φ e v → RepV c H φ2 d v
  | .lst l, e, v, r, h => by
    unfold Rn at r
    obtain ⟨k, rfl, q⟩ := r
    unfold RepV at h ⊢
    obtain ⟨a, h1, h2⟩ := h
    exact ⟨a, h1, (hκ l k q).trans h2⟩
  | .tup ds, e, v, r, h => by
    unfold Rn at r
    obtain ⟨es, rfl, q⟩ := r
    unfold RepV at h ⊢
    obtain ⟨a, xs, h1, h2, h3⟩ := h
    exact ⟨a, xs, h1, h2, RepL.rn hκ ds es xs q h3⟩
  | .wk ds, e, v, r, h => by
    unfold Rn at r
    obtain ⟨es, rfl, q⟩ := r
    unfold RepV at h ⊢
    obtain ⟨a, xs, h1, h2, h3⟩ := h
    exact ⟨a, xs, h1, h2, RepL.rn hκ ds es xs q h3⟩
  | .frl ds, e, v, r, h => by
    unfold Rn at r
    obtain ⟨es, rfl, q⟩ := r
    unfold RepV at h ⊢
    obtain ⟨a, xs, h1, h2, h3⟩ := h
    exact ⟨a, xs, h1, h2, RepL.rn hκ ds es xs q h3⟩
  | .exn _ _ ds, e, v, r, h => by
    unfold Rn at r
    obtain ⟨es, rfl, q⟩ := r
    unfold RepV at h ⊢
    obtain ⟨a, cls, d, vs, h1, h2, h3, h4, h5, h6⟩ := h
    exact ⟨a, cls, d, vs, h1, h2, h3, h4, h5, RepL.rn hκ ds es vs q h6⟩
  | .non, e, v, r, h => by
    unfold Rn at r
    subst r
    unfold RepV at h ⊢
    exact h
  | .bl _, e, v, r, h => by
    unfold Rn at r
    subst r
    unfold RepV at h ⊢
    exact h
  | .int _, e, v, r, h => by
    unfold Rn at r
    subst r
    unfold RepV at h ⊢
    exact h
  | .str _, e, v, r, h => by
    unfold Rn at r
    subst r
    unfold RepV at h ⊢
    exact h
theorem RepL.rn (hκ : ∀ (i k : Nat), κ[i]? = some k → φ2[i]? = φ[k]?) : ∀ (ds es : List D) (vs : List V), RnL κ ds es → RepL c H φ es vs → RepL c H φ2 ds vs
  | [], es, vs, r, h => by
    unfold RnL at r
    subst r
    unfold RepL at h ⊢
    exact h
  | d :: ds, es, vs, r, h => by
    unfold RnL at r
    obtain ⟨e, er, rfl, q1, q2⟩ := r
    unfold RepL at h ⊢
    obtain ⟨v, vr, h1, h2, h3⟩ := h
    exact ⟨v, vr, h1, RepV.rn hκ d e v q1 h2, RepL.rn hκ ds er vr q2 h3⟩
end
end
/-- S2 is what is kept of S1, S0 having stood before -/
structure Gc (S0 : Sto) (κ : List Nat) (S1 S2 : Sto) : Prop where
  nd : κ.Nodup
  len : κ.length = S2.length
  lo : S0.length ≤ S2.length
  id : ∀ i, i < S0.length → κ[i]? = some i
  at_ : ∀ (i : Nat) (xs : List D), S2[i]? = some xs → ∃ k ys, κ[i]? = some k ∧ S1[k]? = some ys ∧ ((S0[i]? = some xs ∧ ys = xs) ∨ RnL κ xs ys)
theorem Gc.get {S0 S1 S2 : Sto} {κ : List Nat} (g : Gc S0 κ S1 S2) {i k : Nat} (h : κ[i]? = some k) : k < S1.length := by
  have hi : i < S2.length := by
    rw [← g.len]
    exact (List.getElem?_eq_some_iff.mp h).1
  obtain ⟨k', ys, e1, e2, _⟩ := g.at_ i S2[i] (List.getElem?_eq_getElem hi)
  rw [h] at e1
  cases e1
  exact (List.getElem?_eq_some_iff.mp e2).1
theorem Gc.rep {c : Cz} {H H' : Hp} {φ φ' : List Addr} {S0 S1 S2 : Sto} {κ : List Nat} (g : Gc S0 κ S1 S2) (rs : RepS c H φ S0) (e : Ext H φ H' φ') (r1 : RepS c H' φ' S1) :
    ∃ φ2, Ext H φ H' φ2 ∧ RepS c H' φ2 S2 ∧ ∀ (i k : Nat), κ[i]? = some k → φ2[i]? = φ'[k]? := by
  by_cases h0 : S2.length = 0
  · have e0 : S2 = [] := List.length_eq_zero_iff.mp h0
    have k0 : κ = [] := List.length_eq_zero_iff.mp (g.len.trans h0)
    have l0 : φ = [] := List.length_eq_zero_iff.mp (by rw [rs.len]; have := g.lo; omega)
    subst e0 k0 l0
    refine ⟨[], ⟨List.prefix_refl _, e.keep, fun b hb => by simp at hb⟩, ⟨by simp, rfl, fun l xs h => by simp at h⟩, fun i k h => by simp at h⟩
  · obtain ⟨a0, _⟩ : ∃ a : Addr, a ∈ φ' := by
      obtain ⟨k, hk⟩ : ∃ k, κ[0]? = some k := ⟨_, List.getElem?_eq_getElem (by rw [g.len]; omega)⟩
      have := g.get hk
      rw [← r1.len] at this
      exact ⟨_, List.getElem_mem this⟩
    have get : ∀ (i k : Nat), κ[i]? = some k → (κ.map fun k => (φ'[k]?).getD a0)[i]? = φ'[k]? := fun i k h => by
      rw [List.getElem?_map, h]
      have hk := g.get h
      rw [← r1.len] at hk
      rw [List.getElem?_eq_getElem hk]
      simp [List.getElem?_eq_getElem hk]
    generalize hφ2 : (κ.map fun k => (φ'[k]?).getD a0) = φ2 at get
    have len2 : φ2.length = S2.length := by rw [← hφ2, List.length_map, g.len]
    have inn : ∀ (i : Nat) (a : Addr), φ2[i]? = some a → ∃ k, κ[i]? = some k ∧ φ'[k]? = some a := fun i a h => by
      have hi : i < κ.length := by
        rw [g.len, ← len2]
        exact (List.getElem?_eq_some_iff.mp h).1
      refine ⟨κ[i], List.getElem?_eq_getElem hi, ?_⟩
      rw [← get i κ[i] (List.getElem?_eq_getElem hi)]
      exact h
    refine ⟨φ2, ⟨?_, e.keep, fun b hb nb => ?_⟩, ⟨?_, len2, fun l xs h => ?_⟩, get⟩
    · rw [List.prefix_iff_getElem?]
      intro i hi
      rw [get i i (g.id i (by rw [← rs.len]; exact hi))]
      exact pre_get e.pre (List.getElem?_eq_getElem hi)
    · obtain ⟨i, hi⟩ := List.getElem?_of_mem hb
      obtain ⟨k, _, q⟩ := inn i b hi
      exact e.new b (List.mem_of_getElem? q) nb
    · rw [List.nodup_iff_pairwise_ne, List.pairwise_iff_getElem]
      intro i j hi hj hij q
      obtain ⟨k1, a1, b1⟩ := inn i φ2[i] (List.getElem?_eq_getElem hi)
      obtain ⟨k2, a2, b2⟩ := inn j φ2[j] (List.getElem?_eq_getElem hj)
      rw [q] at b1
      have ek : k1 = k2 := RepS.write.nodup_ix' r1.nd b1 b2
      subst ek
      have := RepS.write.nodup_ix' g.nd a1 a2
      omega
    · obtain ⟨k, ys, e1, e2, e3⟩ := g.at_ l xs h
      obtain ⟨a, vs, f1, f2, f3⟩ := r1.at_ k ys e2
      refine ⟨a, vs, (get l k e1).trans f1, f2, ?_⟩
      rcases e3 with ⟨z, rfl⟩ | z
      · obtain ⟨_, us, _, _, w⟩ := rs.at_ l ys z
        have bw := RepL.below ys us w
        rw [rs.len] at bw
        exact RepL.rn get ys ys vs (RnL.same g.id ys bw) f3
      · exact RepL.rn get xs ys vs z f3
/-- r' stands for r -/
def Sim (S0 : Sto) (r r' : Res D) : Prop := match r' with
  | .stuck => True
  | .ok d' S2 => ∃ d S1 κ, r = .ok d S1 ∧ Gc S0 κ S1 S2 ∧ Rn κ d' d
  | .exc n ns ds' S2 => ∃ ds S1 κ, r = .exc n ns ds S1 ∧ Gc S0 κ S1 S2 ∧ RnL κ ds' ds
theorem Sim.out {c : Cz} {H : Hp} {φ : List Addr} {S : Sto} {r r' : Res D} {Q : VK} {E : XK} (h : Sim S r r') (rs : RepS c H φ S) (o : Out c H φ (RepV c) r' Q E) : Out c H φ (RepV c) r Q E := by
  cases r' with
  | stuck => exact o.elim
  | ok d' S2 =>
    obtain ⟨d, S1, κ, rfl, g, q⟩ := h
    intro φ' H' y e r1 ry
    obtain ⟨φ2, e2, r2, hκ⟩ := g.rep rs e r1
    exact o φ2 H' y e2 r2 (RepV.rn hκ d' d y q ry)
  | exc n ns ds' S2 =>
    obtain ⟨ds, S1, κ, rfl, g, q⟩ := h
    intro φ' H' cls dx vs e r1 m1 m2 m3 m4
    obtain ⟨φ2, e2, r2, hκ⟩ := g.rep rs e r1
    exact o φ2 H' cls dx vs e2 r2 m1 m2 m3 (RepL.rn hκ ds' ds vs q m4)
section
variable {P : Program} {w : World} {K : PySem.W.Frag} {mg : Str → Option Value} {base : Heap} {k : Nat} {x : Str} {st : Stmt} {ps : List Str} {rf sp : List D → Sto → Res D}
theorem spEv_sim {c : Cz} {n : Nat} (h : ∀ ds S, Sim S (rf ds S) (sp ds S)) : ∀ vs H Q E, spEv c n sp vs H Q E → spEv c n rf vs H Q E := fun vs H Q E ⟨l, φ, ds, S, r, rs, o⟩ => ⟨l, φ, ds, S, r, rs, (h ds S).out rs o⟩
theorem OkD.spec (T : OkD P w K mg base k x st ps rf) (h : ∀ ds S, Sim S (rf ds S) (sp ds S)) : OkD P w K mg base k x st ps sp := by
  obtain ⟨hg, fd, F, ok, bd⟩ := T
  exact ⟨hg, fd, F, ok.imp (spEv_sim h), bd⟩
theorem OkC.spec (T : OkC P w K mg base k x st ps rf) (h : ∀ ds S, Sim S (rf ds S) (sp ds S)) : OkC P w K mg base k x st ps sp := by
  obtain ⟨hg, fd, F, ok, bd⟩ := T
  exact ⟨hg, fd, F, fun xc => ⟨fun vs H Q E q => (ok xc).len vs H Q E (spEv_sim h _ _ _ _ q), fun A outer s H args us vs Q a b c' d q => (ok xc).run A outer s H args us vs Q a b c' d (spEv_sim h _ _ _ _ q)⟩, bd⟩
end
/-! ways to stand for -/
theorem gc_upd {S S' G : Sto} (hl : S'.length = S.length) (h : ∀ (i : Nat) (xs : List D), S'[i]? = some xs → S[i]? = some xs ∨ BelowL S.length xs) : Gc S (List.range S'.length) (S' ++ G) S' where
  nd := List.nodup_range
  len := List.length_range
  lo := by omega
  id := fun i hi => by rw [List.getElem?_range (by omega)]
  at_ := fun i xs e => by
    have hi := (List.getElem?_eq_some_iff.mp e).1
    refine ⟨i, xs, by rw [List.getElem?_range hi], by rw [List.getElem?_append_left hi]; exact e, ?_⟩
    rcases h i xs e with z | z
    · exact .inl ⟨z, rfl⟩
    · exact .inr (RnL.same (fun j hj => by rw [List.getElem?_range (by omega)]) xs z)
theorem Sim.upd {S S' G : Sto} {r : Res D} {d : D} (e : r = .ok d (S' ++ G)) (hl : S'.length = S.length) (h : ∀ (i : Nat) (xs : List D), S'[i]? = some xs → S[i]? = some xs ∨ BelowL S.length xs) (hd : Below S.length d) : Sim S r (.ok d S') :=
  ⟨d, _, _, e, gc_upd hl h, Rn.same (n := S.length) (fun j hj => by rw [List.getElem?_range (by omega)]) d hd⟩
theorem Sim.val {S G : Sto} {r : Res D} {d : D} (e : r = .ok d (S ++ G)) (hd : Below S.length d) : Sim S r (.ok d S) := Sim.upd e rfl (fun _ _ h => .inl h) hd
theorem Sim.exc {S G : Sto} {r : Res D} {n : Str} {ns : List Str} {ds : List D} (e : r = .exc n ns ds (S ++ G)) (hd : BelowL S.length ds) : Sim S r (.exc n ns ds S) :=
  ⟨ds, _, _, e, gc_upd rfl (fun _ _ h => .inl h), RnL.same (n := S.length) (fun j hj => by rw [List.getElem?_range hj]) ds hd⟩
/-- a new list -/
theorem Sim.new {S S' G : Sto} {r : Res D} {l : Nat} {xs : List D} (e : r = .ok (.lst l) (S' ++ G)) (hl : S'.length = S.length) (h : ∀ (i : Nat) (xs : List D), S'[i]? = some xs → S[i]? = some xs ∨ BelowL S.length xs) (lo : S.length ≤ l) (hx : (S' ++ G)[l]? = some xs) (hb : BelowL S.length xs) : Sim S r (.ok (.lst S.length) (S' ++ [xs])) := by
  have hid : ∀ i, i < S.length → (List.range S.length ++ [l])[i]? = some i := fun i hi => by
    rw [List.getElem?_append_left (by rw [List.length_range]; exact hi), List.getElem?_range hi]
  refine ⟨.lst l, _, List.range S.length ++ [l], e, ⟨?_, by simp [hl], by simp [hl], hid, fun i ys q => ?_⟩, ?_⟩
  · rw [List.nodup_append]
    refine ⟨List.nodup_range, by simp, fun a ha b hb => ?_⟩
    simp at ha hb
    omega
  · have hi := (List.getElem?_eq_some_iff.mp q).1
    by_cases hlt : i < S.length
    · rw [List.getElem?_append_left (by omega)] at q
      refine ⟨i, ys, hid i hlt, by rw [List.getElem?_append_left (by omega)]; exact q, ?_⟩
      rcases h i ys q with z | z
      · exact .inl ⟨z, rfl⟩
      · exact .inr (RnL.same hid ys z)
    · have ei : i = S.length := by simp at hi; omega
      subst ei
      rw [List.getElem?_append_right (by omega), hl, Nat.sub_self] at q
      cases q
      exact ⟨l, xs, by rw [List.getElem?_append_right (by simp)]; simp, hx, .inr (RnL.same hid xs hb)⟩
  · unfold Rn
    exact ⟨l, rfl, by rw [List.getElem?_append_right (by simp)]; simp⟩
end MP
end
section
set_option Elab.async false
set_option linter.all false
set_option maxRecDepth 100000
set_option maxHeartbeats 1000000
/-! MPE: enumerate of lists and tuples, least and greatest of them, the number of a tuple's different ints. -/
namespace MP
open PySem PySem.Spec PyProof.Rows L2

/-! ### enumerate -/
theorem meets_en1 {u : Value} {ob : Obj} {Hh : Heap → Prop} (B : Begins u ob Hh) :
    Meets (Builtin.«enumerate.__new__» ⟨[.type "enumerate", u], []⟩) (fun _ R z => Hh z.heap ∧ R (.ok (.ret (.ref (z.heap.push ob).objs.size))) { z with heap := (z.heap.push ob).push { cls := .type "enumerate", data := .fields #[.none, .bool false, .ref z.heap.objs.size, rawInt 0, .none, .none] } }) :=
  .of_wp fun pg ww Ar R z k => by
    obtain ⟨h0, g0, d0, t0, o0⟩ := z
    obtain ⟨k1, k2⟩ := k
    have hsub := sub_enumerate
    have dr : ∀ {A' : Around} {E' : Value → Shared → Prop} {Q' : Value → Shared → Prop}, Q' (.ref h0.objs.size) ⟨h0.push ob, g0, d0, t0, o0⟩ → wpAny (model pg ww) A' (pyIter u) Q' E' ⟨h0, g0, d0, t0, o0⟩ :=
      fun q => B.iter pg ww _ _ ⟨h0, g0, d0, t0, o0⟩ _ k1 q
    wp_walk using dr
    refine wpAny_stack_any fun _ => wpAny_pure ?_
    split
    · rename_i cc _ _ _ _ _
      cases (cc == Value.type "enumerate") <;>
        · wp_walk using dr
          exact ⟨_, rfl, k2⟩
    · wp_walk using dr
      exact ⟨_, rfl, k2⟩
theorem en1_new {pg : Program} {ww : World} {Ar : Around} {Ex : Value → Shared → Prop} {z : Shared} {u : Value} {ob : Obj} {Hh : Heap → Prop} {Q : Value → Shared → Prop} (B : Begins u ob Hh) (k1 : Hh z.heap)
    (k : ∀ h2, IsEnum h2 (z.heap.objs.size + 1) z.heap.objs.size 0 .none → h2.get? z.heap.objs.size = some ob → (∀ b o, z.heap.get? b = some o → h2.get? b = some o) → Q (.ref (z.heap.objs.size + 1)) { z with heap := h2 }) :
    wpAny (model pg ww) Ar (call (.type "enumerate") [u]) Q Ex z := by
  refine callType_new F.called_enumerate (by decide) (F.typeCall_enumerate_1 _) (F.newCall_enumerate_1 _) (fun ov => F.args_object_init_2 ov _) F.entry_enumerate_new (meets_en1 B) ⟨k1, ?_⟩
  have sz : (z.heap.push ob).objs.size = z.heap.objs.size + 1 := Heap.size_push ..
  show _ ∧ _
  rw [sz]
  have hE : IsEnum ((z.heap.push ob).push { cls := .type "enumerate", data := .fields #[.none, .bool false, .ref z.heap.objs.size, rawInt 0, .none, .none] }) (z.heap.objs.size + 1) z.heap.objs.size 0 .none := by
    have t := Heap.get?_push_size (z.heap.push ob) (o := { cls := .type "enumerate", data := .fields #[.none, .bool false, .ref z.heap.objs.size, rawInt 0, .none, .none] }) rfl
    rw [sz] at t
    exact t
  exact ⟨⟨_, hE, rfl⟩, k _ hE (Heap.get?_push_of_some _ (Heap.get?_push_size _ B.free)) fun b o y => Heap.get?_push_of_some _ (Heap.get?_push_of_some _ y)⟩
/-- the tuple at a, its items with their places in new pairs -/
def Iten (K : PySem.W.Frag) (a : Addr) : It where
  go i H := ∃ (us : List V) (u : V), SqT K H a us ∧ us[i]? = some u
  yld i H v H' := ∃ T u, v = .ref T ∧ H T = none ∧ H' = upd H T (.tup [.int (i : Nat), u]) ∧ ∀ us, SqT K H a us → us[i]? = some u
  stop i H := ∃ us : List V, SqT K H a us ∧ us.length ≤ i
theorem turn_en {P : Program} {w : World} {K : PySem.W.Frag} {elts : List Expr} {kk : Nat} {tpos : Pos} (a e it : Addr) (hat : a ≠ it) (hae : e ≠ a) :
    Turn P w K (.Tuple elts kk tpos) (Iten K a) [e, it] e (fun i h => (∃ old, IsEnum h e it ((i : Nat) : Int) old) ∧ h.IsTupleIter it a i ∧ e ≠ it) where
  mem := List.mem_cons_self ..
  obj := fun i h ⟨⟨old, h1⟩, ⟨o, h2, _, h3⟩, _⟩ b hb => by
    rcases (show b = e ∨ b = it by simpa using hb) with rfl | rfl
    · exact ⟨_, h1, fun v q => nomatch q⟩
    · exact ⟨o, h2, fun v q => by rw [h3] at q; cases q⟩
  keep := fun i h h' ⟨⟨old, h1⟩, h2, h3⟩ k => ⟨⟨old, k e (by simp) _ h1⟩, h2.at fun o q => k it (by simp) o q, h3⟩
  item := by
    intro X hP hw hK hc i pins s σ H E I hf ⟨⟨old, h1⟩, h2, h3⟩ ⟨us, u, hq, hu⟩
    subst hP hw hK
    obtain ⟨its, rv, pt, _⟩ := I.tuple hq
    obtain ⟨uv, huv, ru⟩ := rv.get hu
    have pt' : s.heap.IsTuple a its.toArray := pt
    have le : e < s.heap.objs.size := Heap.lt_size h1
    have li : it < s.heap.objs.size := by obtain ⟨_, q, _⟩ := h2; exact Heap.lt_size q
    have hil : i < its.toArray.size := by
      rw [List.size_toArray]
      exact (List.getElem?_eq_some_iff.mp huv).1
    refine wpAny_pyNext_enum_itemD (Draws.tuple (A := X.A.in1) (I.ok.hd hc) it a hat its.toArray) h1 ⟨h2, pt'⟩ hil h3 (by simp [h3, hae]) fun x h' tk hx ho hs' hT hsz hk => ?_
    have ex : x = uv := by
      have q : its.toArray[i]? = some uv := by simpa using huv
      rw [hx] at q
      exact Option.some.inj q
    subst ex
    refine ⟨_, rfl, wpAny_letOwnedTupleGo_enum (s := { s with heap := h', toks := tk + 1 }) ho fun h'' he' sb => ?_⟩
    have hT2 : h''.get? s.heap.objs.size = some { cls := .type "tuple", data := .seq #[.int i tk, x] } := (sb.2 _ (Nat.ne_of_gt le)).trans hT
    have ok : ObjOk X.prog X.w (upd H s.heap.objs.size (.tup [.int (i : Nat), u])) h'' s.heap.objs.size (.tup [.int (i : Nat), u]) :=
      ⟨(by show 2 ≤ sizeLine; decide), [.int i tk, x], .cons ⟨_, rfl⟩ (.cons ru .nil), ⟨_, hT2, rfl, _, rfl⟩⟩
    have I1 : Inv X pins σ (upd H s.heap.objs.size (.tup [.int (i : Nat), u])) { s with heap := h'', toks := tk + 1 } :=
      I.turnedNew (ch := [e, it]) (fun b ob hb q => (sb.2 b (fun z => hb (by simp [z]))).trans (hk b ob (fun z => hb (by simp [z])) (fun z => hb (by simp [z])) q)) hf (Nat.le_refl _) ok
    refine ⟨.ref s.heap.objs.size, _, I1, rfl, ⟨_, u, rfl, I.hok.fresh (Nat.le_refl _), rfl, fun ys hy => by rw [I.tuple_inj hy hq]; exact hu⟩, ⟨⟨x, ?_⟩, hs'.1.at fun o q => (sb.2 it (Ne.symm h3)).trans q, h3⟩, fun b hb => ?_⟩
    · rw [show ((i + 1 : Nat) : Int) = (i : Int) + 1 by omega]
      exact he'
    · have hb' : b < s.heap.objs.size := by
        rcases (show b = e ∨ b = it by simpa using hb) with q | q
        · rw [q]; exact le
        · rw [q]; exact li
      rw [upd_ne (Nat.ne_of_lt hb')]
      exact (hf b hb).1
  done := by
    intro X hP hw hK hc i pins s σ H E I hf ⟨⟨old, h1⟩, h2, h3⟩ ⟨us, hq, hu⟩
    subst hP hw hK
    obtain ⟨its, rv, pt, _⟩ := I.tuple hq
    obtain ⟨f0, f1, f2, f3, f4, f5⟩ := hf it (by simp)
    have lv := rv.length
    have hT : s.TypeIs (.ref e) "enumerate" := ⟨_, h1, rfl⟩
    have pt' : s.heap.IsTuple a its.toArray := pt
    unfold pyNext
    refine wpAny_bind (wpAny_attempt (wpAny_callSpecial?_slot (name := Str.ofString "__next__") hT F.slot_enumerate_next (wpAny_call_entry F.slot_enumerate_next hT F.entry_enumerate_next ?_ (F.args_enumerate_next_1 _))))
    show wpAny _ _ (field (.ref e) 2 >>= _) _ _ _
    refine wpAny_bind (wpAny_field h1 rfl (x := .ref it) rfl ?_)
    refine wpAny_bind (wpAny_nextOf_tuple_end (A := X.A.in1) (I.ok.hd hc) h2 pt' (by simp; omega) fun h' ev eb hx => ?_)
    obtain ⟨ox, hox, hcx⟩ := hx
    refine wpAny_bind (wpAny_isInstance (T := "StopIteration") (b := true) ⟨ox, hox, hcx⟩ isSubtype_stop ?_)
    exact wpAny_pure ⟨rfl, I.turned (t' := s.toks) (fun b o hb q => eb b o hb q) f0 f1 f3 f4 f5⟩
  self := fun A i s Q E ⟨⟨_, h1⟩, _⟩ k => wpAny_pyIter_enum h1 k
def iEn (K : PySem.W.Frag) (ta : TA) : TI := fun σ H R => ta σ H fun vs H1 => ∃ a, vs = [.ref a] ∧ ((∃ us, SqL K H1 a us ∧ R (Ite K a) H1) ∨ (∃ us, SqT K H1 a us ∧ R (Iten K a) H1))
theorem pi_en {X : Cx} {e : Expr} {ta : TA} {p pos tpos : Pos} {elts : List Expr} {kk : Nat} (hg : Gl X "enumerate") (hm : X.mg "enumerate" = none) (ha : PA X [e] ta) (hs : starEach [e] X.env = [(false, eval e X.env)] := by rfl) :
    PI X (.Tuple elts kk tpos) (.Call (.Name "enumerate" p) [e] [] pos) (iEn X.K ta) := ⟨fun pins s σ H R I h => by
  refine Call_ (ld_blt I hg hm boot_enumerate (PyProof.Rows.callWith_type1 (thn (ha.run pos pins s σ H _ I h) fun us s1 ⟨vs, H1, I1, r1, a, ex, q⟩ => ?_) hs rfl))
  subst ex
  cases r1 with
  | cons r rr =>
    cases rr
    cases r
    have low : ∀ b ∈ [s1.heap.objs.size + 1, s1.heap.objs.size], FpOk X pins H1 b := fun b hb => by
      have l : s1.heap.objs.size ≤ b := by
        rcases (show b = s1.heap.objs.size + 1 ∨ b = s1.heap.objs.size by simpa using hb) with z | z <;> omega
      exact I1.fpOk l (I1.hok.fresh l)
    rcases q with ⟨xs, hq, q⟩ | ⟨xs, hq, q⟩
    · obtain ⟨its, rv, pl, _⟩ := I1.list hq
      refine en1_new (begins_list a its.toArray) pl.isList fun h2 he hit hk => wpAny_pyIter_enum he ?_
      exact ⟨s1.heap.objs.size + 1, _, _, _, H1, rfl, I1.kept (t' := s1.toks) hk, turn_enum a (s1.heap.objs.size + 1) s1.heap.objs.size, ⟨⟨.none, he⟩, ⟨_, hit, rfl, rfl⟩, Nat.succ_ne_self _⟩, low, q⟩
    · obtain ⟨its, rv, pt, _⟩ := I1.tuple hq
      have pt' : s1.heap.IsTuple a its.toArray := pt
      have la : a < s1.heap.objs.size := by obtain ⟨_, z, _⟩ := pt'; exact Heap.lt_size z
      refine en1_new (begins_tuple a its.toArray) pt' fun h2 he hit hk => wpAny_pyIter_enum he ?_
      exact ⟨s1.heap.objs.size + 1, _, _, _, H1, rfl, I1.kept (t' := s1.toks) hk, turn_en a (s1.heap.objs.size + 1) s1.heap.objs.size (Nat.ne_of_lt la) (Nat.ne_of_gt (Nat.lt_succ_of_lt la)), ⟨⟨.none, he⟩, ⟨_, hit, rfl, rfl⟩, Nat.succ_ne_self _⟩, low, q⟩⟩
/-! over data -/
def enuD : Nat → List D → List D
  | _, [] => []
  | i, x :: xs => .wk [.int (i : Nat), x] :: enuD (i + 1) xs
theorem enuD_length : ∀ (xs : List D) (i : Nat), (enuD i xs).length = xs.length
  | [], _ => rfl
  | x :: xs, i => by rw [enuD, List.length_cons, enuD_length xs, List.length_cons]
theorem enuD_get : ∀ {xs : List D} {k i : Nat} {t : D}, (enuD k xs)[i]? = some t → ∃ x, t = .wk [.int ((k + i : Nat) : Int), x] ∧ xs[i]? = some x
  | [], _, _, _, h => by unfold enuD at h; simp at h
  | x :: xs, k, 0, t, h => by
    unfold enuD at h
    simp at h
    exact ⟨x, by rw [← h]; rfl, rfl⟩
  | x :: xs, k, i + 1, t, h => by
    unfold enuD at h
    obtain ⟨y, h1, h2⟩ := enuD_get (xs := xs) (k := k + 1) (i := i) (t := t) (by simpa using h)
    exact ⟨y, by rw [h1, show k + 1 + i = k + (i + 1) by omega], by simpa using h2⟩
def enuS (ds : List D) (S : Sto) : Res Src := match ds with
  | [d] => match srcOf d S with
    | some z => .ok ⟨enuD 0 z.xs, z.st⟩ S
    | none => .stuck
  | _ => .stuck
section
variable {X : Cx} {c : Cz} {W : WX} {a b d : Expr} {ea eb ed : Ev} {pos : Pos} {es : List Expr} {ra : EvA} {p : Pos}
theorem enu_new {z : Src} {H2 : Hp} {φ2 : List Addr} {S2 : Sto} {us : List V} {i : Nat} {t : D} (s : RepS c H2 φ2 S2) (rl : RepL c H2 φ2 z.xs us) (ht : (enuD 0 z.xs)[i]? = some t) :
    ∃ u, us[i]? = some u ∧ ∀ T, H2 T = none → Ext H2 φ2 (upd H2 T (.tup [.int (i : Nat), u])) φ2 ∧ RepS c (upd H2 T (.tup [.int (i : Nat), u])) φ2 S2 ∧ RepV c (upd H2 T (.tup [.int (i : Nat), u])) φ2 t (.ref T) := by
  obtain ⟨x, rfl, hx⟩ := enuD_get ht
  obtain ⟨u, hu, ru⟩ := rl.get hx
  refine ⟨u, hu, fun T hT => ?_⟩
  obtain ⟨s2, e2⟩ := s.keep (H' := upd H2 T (.tup [.int (i : Nat), u])) (upd_keep hT)
  refine ⟨e2, s2, ?_⟩
  unfold RepV
  exact ⟨T, _, rfl, SqT.of upd_same, .cons (by unfold RepV; rw [Nat.zero_add]) (.cons (RepV.ext s.ls e2 _ _ ru) .nil)⟩
theorem mi_enum {elts : List Expr} {kk : Nat} {tpos : Pos} (h : MA X c W [a] ra) (hm : X.mg "enumerate" = none) (hg : Gl X "enumerate" := by rfl) (hs : starEach [a] X.env = [(false, eval a X.env)] := by rfl) : MI X c W (.Tuple elts kk tpos) (.Call (.Name "enumerate" p) [a] [] pos) (iRange enuS ra) := fun s => by
  refine PI.imp (pi_en hg hm (h s) hs) fun σ H R ⟨φ, ρ, S, re, rs, o⟩ => ?_
  refine ⟨φ, ρ, S, re, rs, Out.bind o fun x S1 φ1 H1 v e1 s1 r1 o1 => ?_⟩
  unfold enuS at o1
  split at o1
  · rename_i d0
    obtain ⟨v1, rfl, r2⟩ := r1.one
    cases eq : srcOf d0 S1 with
    | none => rw [eq] at o1; exact o1.elim
    | some z =>
      rw [eq] at o1
      obtain ⟨a', rfl, q⟩ := src_at s1 r2 eq
      rw [← s.kk]
      refine ⟨a', rfl, ?_⟩
      rcases q with ⟨us, sq, rl, k⟩ | ⟨us, sq, rl, k⟩
      · refine .inl ⟨us, sq, o1 φ1 H1 _ (.refl _ _) s1 fun H2 φ2 S2 i e2 s2 hst => ?_⟩
        obtain ⟨us2, sq2, rl2⟩ := k H2 φ2 S2 e2 s2 hst
        refine ⟨fun t ht => ?_, fun hl => ⟨us2, sq2, by rw [← rl2.length]; rw [enuD_length] at hl; exact hl⟩⟩
        obtain ⟨u, hu, nw⟩ := enu_new s2 rl2 ht
        refine ⟨⟨us2, u, sq2, hu⟩, fun v H3 ⟨T, u', ev, hT, eH, y⟩ => ?_⟩
        have := y us2 sq2
        rw [hu] at this
        cases this
        subst ev eH
        exact nw T hT
      · refine .inr ⟨us, sq, o1 φ1 H1 _ (.refl _ _) s1 fun H2 φ2 S2 i e2 s2 hst => ?_⟩
        obtain ⟨us2, sq2, rl2⟩ := k H2 φ2 S2 e2 s2 hst
        refine ⟨fun t ht => ?_, fun hl => ⟨us2, sq2, by rw [← rl2.length]; rw [enuD_length] at hl; exact hl⟩⟩
        obtain ⟨u, hu, nw⟩ := enu_new s2 rl2 ht
        refine ⟨⟨us2, u, sq2, hu⟩, fun v H3 ⟨T, u', ev, hT, eH, y⟩ => ?_⟩
        have := y us2 sq2
        rw [hu] at this
        cases this
        subst ev eH
        exact nw T hT
  · exact o1.elim
end
end MP
end
section
set_option Elab.async false
set_option linter.all false
set_option maxRecDepth 100000
set_option maxHeartbeats 1000000
/-! MPF: isinstance of a caught error with fields; least, greatest; the number of different ints; comprehensions of two clauses. -/
namespace MP
open PySem PySem.Spec PySem.Calls PyProof.Rows PySem.W

section
variable {pg : Program} {ww : World} {Ar : Around} {Ex : Value → Shared → Prop} {z : Shared} {K : Frag} {x C : Addr} {ox : Obj} {od : Option Obj}
theorem find_cls (T : L2.ExcC K C) : findObj K C od "__class__" = some (.bind (.builtin "getset_descriptor.__get__") (.builtin "object.__class__")) := by
  obtain ⟨cd, hc, _⟩ := any_some T.hd
  unfold findObj
  rw [hc, Option.bind_some, T.ha, Option.bind_some]
  simp [T.hn, T.ht]
theorem cls_of {Q : Option Value → Shared → Prop} (T : L2.ExcC K C) (X : K.In z.heap) (J : InstAt z.heap x ox C od) (h : Q (some (.ref C)) { z with toks := z.toks + 1 }) : wpAny (model pg ww) Ar (getAttr? (.ref x) "__class__") Q Ex z := by
  obtain ⟨h0, g0, d0, t0, o0⟩ := z
  have A0 := J.type (M := model pg ww)
  have A1 := looks_findIn (M := model pg ww) X T.hg
  have A2 := looks_findIn (M := model pg ww) X T.hk
  have A3 := looks_find (M := model pg ww) X J (find_cls T)
  have A4 : Looks (model pg ww) h0 (isInstance (.ref x) (.type "BaseException")) true := A0.andThen (looks_subIn X T.hs)
  have ne : (Value.builtin "BaseException.__getattribute__" == Value.builtin "object.__getattribute__") = false := by decide +kernel
  have n1 : (onTheHeap (Value.ref C) && Value.builtin "BaseException.__getattribute__" == Value.builtin "object.__getattribute__") = false :=
    by rw [ne]; rfl
  unfold getAttr? getAttrBy? getAttrBy
  refine wpAny_bind (wpAny_mkText ?_)
  refine wpAny_bind (wpAny_attempt (wpAny_holding ?_))
  refine wpAny_bind (A0.at (wpAny_bind (A1.at ?_)))
  show wpAny _ _ (if (onTheHeap (Value.ref C) && Value.builtin "BaseException.__getattribute__" == Value.builtin "object.__getattribute__") = true then _ else _)
    _ _ _
  rw [n1, if_neg Bool.false_ne_true]
  unfold getAttrByItsOwn hookBefore
  refine wpAny_bind ?_
  rw [if_pos (show onTheHeap (Value.ref C) = true
    from rfl)]
  refine A2.at ?_
  refine wpAny_bind (wpAny_attempt
    (wpAny_holding ?_))
  unfold callGetattribute
  rw [show (false && onTheHeap (Value.builtin "BaseException.__getattribute__")) = false from rfl, if_neg Bool.false_ne_true]
  unfold boundAndCalled
  rw [PySem.F.excAttr_ValueError.ga.bind
    (.ref x)]
  refine wpAny_bind (wpAny_pure ?_)
  show wpAny _ _ (call (.builtin "BaseException.__getattribute__") [.ref x, .str "__class__" t0])
    _ _ _
  refine wpAny_call (codeAny_call_builtin PySem.F.excAttr_ValueError.ga.plain
    PySem.F.entry_bexc_ga ?_)
  refine @check_slot (model pg ww) _ _ ⟨h0, g0, d0, t0 + 1, o0⟩ "BaseException.__getattribute__" "BaseException" "__getattribute__" (.ref x) [.str "__class__" t0] [] _
    (by decide +kernel) (by decide +kernel) A4 (PySem.F.args_bexc_ga (.ref x) (.str "__class__" t0)) ?_
  unfold Builtin.«object.__getattribute__»
  refine wpAny_bind (wpAny_of_eq (a := ((Value.ref x : Value), [Value.str "__class__" t0]))
    (by first | rfl | (simp only [slotArgs]; rfl)) ?_)
  refine wpAny_bind (wpAny_pure ?_)
  refine wpAny_bind (A0.at (wpAny_bind (A3.at ?_)))
  show wpAny _ _ (holding [Value.builtin "object.__class__"] (call (.builtin "getset_descriptor.__get__") [.builtin "object.__class__", .ref x, .ref C]) >>= ret)
    _ _ _
  refine wpAny_bind (wpAny_holding (wpAny_call (class_get (s := ⟨h0, g0, d0, t0 + 1, o0⟩) (ox := ox) (od := od) X J T.hm ?_)))
  refine wpAny_pure ?_
  show wpAny _ _ (handedOut (.ref C))
    _ _ _
  rw [handedOut_of (v := .ref C)
    rfl]
  first
    | exact wpAny_pure (wpAny_pure h)
    | exact wpAny_pure
        h
    | exact wpAny_pure (wpAny_bind (wpAny_pure (wpAny_pure h)))
theorem kit_exc (T : L2.ExcC K C) : KitX K (.ref x) (.ref C) (fun h => InstAt h x ox C od) where
  ty _ _ _ J := J.type
  it _ _ X _ := by
    obtain ⟨cd, hc, _⟩ := any_some T.hd
    unfold clsIn at hc
    split at hc
    · rename_i c' d' cd' sl' ho
      intro A' Q' E' s' k q
      unfold isType loadHead
      exact wpAny_bind (wpAny_loadPart (k _ _ (X _ _ ho))
        (wpAny_pure q))
    · cases hc
  ne h tp dd its n sl X htp := by
    obtain ⟨cd, hc, _⟩ := any_some T.hd
    refine Bool.eq_false_iff.mpr fun q => ?_
    have e := Value.ref.inj (beq_iff_eq.mp q)
    subst e
    unfold clsIn at hc
    split at hc
    · rename_i c' d' cd' sl' ho
      have y := (X _ _ ho).symm.trans htp
      cases y
    · cases hc
  ca X J k := cls_of T X J k
end
end MP
namespace MP
open PySem PySem.Spec PyProof.Rows L2
section
variable {X : Cx} {c : Cz} {W : WX} {a b d : Expr} {ea eb ed : Ev} {pos : Pos} {es : List Expr} {ra : EvA} {x : Str} {p : Pos}
/-- isinstance(e, t), e the error that the suite holds, with its fields -/
def rIsD (K : PySem.W.Frag) (C a dx : Addr) : List V → Hp → VK → Prop := fun us H Q => ∃ (t : V) (tv : Value) (k : Bool) (fs : List (Str × V)), us = [.ref a, t] ∧ (∀ u, RelV t u → u = tv) ∧ H dx = some (.xd fs) ∧ PySem.W.kitOne K (.ref C) tv = some k ∧ Q (.bl k) H
theorem call_isD {a C dx : Addr} {oe : Obj} {pn : List (Addr × Obj)} (T : ExcC X.K C) (hz : Zc (.ref C) (some dx) oe) (hf : ∃ vs, oe.data = .fields vs) : CallR (X.suite a ((a, oe) :: pn)) (.builtin "isinstance") (rIsD X.K C a dx) := by
  intro pins s σ H us vs Q I r h
  obtain ⟨t, tv, k, fs, rfl, ht, hd, hk, q⟩ := h
  cases r with
  | cons r1 rr =>
    cases rr with
    | cons r2 rr =>
      cases rr
      cases r1
      have e := ht _ r2
      subst e
      obtain ⟨g, _⟩ := I.pin (a, oe) (List.mem_append.mpr (.inl List.mem_cons_self))
      obtain ⟨us, hu⟩ := hf
      have ok : ObjOk X.prog X.w H s.heap dx (.xd fs) := I.hok dx _ hd
      obtain ⟨mA, hns, hr⟩ := ok
      obtain ⟨od, ho, hl⟩ := lookIn_ns hns
      have J : PySem.W.InstAt s.heap a oe C (some od) := ⟨g, hz.1, by unfold PySem.W.notCls; rw [hu] <;> rfl, by rw [hz.2]; exact ho⟩
      exact PySem.W.kia_one (kit_exc T) I.kIn J hk (fun y => nomatch y) fun tk => ⟨.bl k, H, I.tok tk, rfl, q⟩
def dIsE (n : Str) (k : Bool) : D → Sto → Option (D × Sto) := fun d S => match d with
  | .exn m _ _ => if m = n then some (.bl k, S) else none
  | _ => none
theorem me_isE {Y : Cx} {ad C dx : Addr} {oe : Obj} {cls : Value} {pn : List (Addr × Obj)} {n y : Str} {py : Pos} {t : V} {tv : Value} {k : Bool} (T : ExcC Y.K C) (hcn : Y.mg n = some (.ref C)) (hm : Y.mg "isinstance" = none) (ht : PE (Y.suite ad ((ad, oe) :: pn)) (.Name y py) (tC t)) (htv : ∀ u, RelV t u → u = tv) (hk : PySem.W.kitOne Y.K (.ref C) tv = some k)
    (hz : Zc cls (some dx) oe) (hf : ∃ vs, oe.data = .fields vs) (h : ME (Y.suite ad ((ad, oe) :: pn)) (c.hot ad cls dx) W a ea) (hg : Gl Y "isinstance" := by rfl)
    (he1 : starEach [a, .Name y py] Y.env = (false, eval a Y.env) :: starEach [.Name y py] Y.env := by rfl) (he2 : starEach [.Name y py] Y.env = (false, eval (.Name y py) Y.env) :: starEach [] Y.env := by rfl) (hpl : (backTo pos (starEach [.Name y py] Y.env)).any (·.1) = false := by rfl) :
    ME (Y.suite ad ((ad, oe) :: pn)) (c.hot ad cls dx) W (.Call (.Name "isinstance" p) [a, .Name y py] [] pos) (eU (dIsE n k) ea) := fun s => by
  by_cases hcls : cls = .ref C
  · subst hcls
    refine PE.imp (pe_callB (call_isD (X := Y) T hz hf) hg hm (by decide +kernel) (pa_cons (h s) (pa_cons ht pa_nil he2) he1) (by decide) (by decide) he1 hpl) fun σ H Q ⟨φ, ρ, S, re, rs, o⟩ => ?_
    refine ⟨φ, ρ, S, re, rs, Out.bind o fun x S1 φ1 H1 v e1 s1 r1 o1 => ?_⟩
    replace o1 := OutO.of o1
    cases x <;> first
      | exact False.elim o1
      | skip
    rename_i m ns ds
    unfold RepV at r1
    obtain ⟨a', cls', d', vs, rfl, hx, hmg, hd, hl, rl⟩ := r1
    cases hx
    by_cases hn : m = n
    · subst hn
      unfold dIsE at o1
      simp only [if_true] at o1
      exact ⟨t, tv, k, _, rfl, htv, hd, hk, o1 φ1 H1 _ (.refl _ _) s1 rep_bl⟩
    · unfold dIsE at o1
      simp only [if_neg hn] at o1
      exact o1.elim
  · have no : CallR (Y.suite ad ((ad, oe) :: pn)) (.builtin "isinstance") (fun _ _ _ => False) := fun _ _ _ _ _ _ _ _ _ q => q.elim
    refine PE.imp (pe_callB no hg hm (by decide +kernel) (pa_cons (h s) (pa_cons ht pa_nil he2) he1) (by decide) (by decide) he1 hpl) fun σ H Q ⟨φ, ρ, S, re, rs, o⟩ => ?_
    refine ⟨φ, ρ, S, re, rs, Out.bind o fun x S1 φ1 H1 v e1 s1 r1 o1 => ?_⟩
    exfalso
    replace o1 := OutO.of o1
    cases x <;> first
      | exact False.elim o1
      | skip
    rename_i m ns ds
    unfold RepV at r1
    obtain ⟨a', cls', d', vs, rfl, hx, hmg, hd, hl, rl⟩ := r1
    cases hx
    by_cases hn : m = n
    · subst hn
      have h2 : Y.mg m = some cls := by rw [← s.mm]; exact hmg
      rw [hcn] at h2
      exact hcls (Option.some.inj h2).symm
    · unfold dIsE at o1
      simp only [if_neg hn] at o1
      exact o1.elim
end
end MP
end
section
set_option Elab.async false
set_option linter.all false
set_option maxRecDepth 100000
set_option maxHeartbeats 1000000
/-! MPG: least and greatest of a sequence, how many different ints, list(range(n)), xs[:0:-1], comprehensions of two clauses. -/
namespace MP
open PySem PySem.Spec PyProof.Rows L2
section
variable {X : Cx} {c : Cz} {W : WX} {a b d : Expr} {ea eb ed : Ev} {pos : Pos} {es : List Expr} {ra : EvA} {x : Str} {p : Pos}
/-! ### min, max -/
theorem call_minT (hc : X.calm = true) (hu : X.A.units + 64 < cLine) : CallR X (.builtin "min") (fun vs H Q => ∃ (l : Addr) (ns : List Int), vs = [V.ref l] ∧ SqT X.K H l (ns.map V.int) ∧ 0 < ns.length ∧ ∀ m, m ∈ ns → (∀ y, y ∈ ns → m ≤ y) → Q (.int m) H) := by
  intro pins s σ H vs us Q I r h
  obtain ⟨l, ns, rfl, hs, hn, q⟩ := h
  obtain ⟨its, rv, pt, _⟩ := I.tuple hs
  have pt' : s.heap.IsTuple l its.toArray := pt
  rw [Vals.ref1 r]
  match ns, hn with
  | n :: ns, _ =>
    have hi := PySem.W.HoldAll.of_ints (h := s.heap) (ints_of_vals rv)
    refine PySem.W.min_tuple_datum (I.ok.hd hc) pt' (x := n) (xs := ns) (by simpa using hi) (show X.A.units + 1 + 0 < cLine by omega) fun i v h' tk hv hh hk => ?_
    obtain ⟨as, hr⟩ := hh
    have hr' : Reads h' v (.int (PySem.W.minOf n ns)) as := hr
    cases hr'
    refine ⟨.int _, H, I.kept hk, ⟨_, rfl⟩, ?_⟩
    have key : ∀ (l : List Int) (z : Int), (l.foldl (fun a y => if PySem.W.DatumOrd.lt y a = true then y else a) z = z ∨ l.foldl (fun a y => if PySem.W.DatumOrd.lt y a = true then y else a) z ∈ l) ∧ l.foldl (fun a y => if PySem.W.DatumOrd.lt y a = true then y else a) z ≤ z ∧ ∀ y ∈ l, l.foldl (fun a y => if PySem.W.DatumOrd.lt y a = true then y else a) z ≤ y := by
      intro l
      induction l with
      | nil => intro z; exact ⟨.inl rfl, Int.le_refl _, by simp⟩
      | cons w l ih =>
        intro z
        obtain ⟨h1, h2, h3⟩ := ih (if PySem.W.DatumOrd.lt w z = true then w else z)
        have hl : PySem.W.DatumOrd.lt w z = decide (w < z) := rfl
        rw [List.foldl_cons]
        by_cases hw : w < z
        · rw [hl, decide_eq_true hw, if_pos rfl] at h1 h2 h3 ⊢
          exact ⟨.inr (by rcases h1 with e | e <;> simp [e]), by omega, fun y hy => by
            rcases List.mem_cons.mp hy with rfl | hy
            · exact h2
            · exact h3 y hy⟩
        · rw [hl, decide_eq_false hw, if_neg (by decide)] at h1 h2 h3 ⊢
          exact ⟨h1.imp id fun e => by simp [e], h2, fun y hy => by
            rcases List.mem_cons.mp hy with rfl | hy
            · omega
            · exact h3 y hy⟩
    obtain ⟨k1, k2, k3⟩ := key ns n
    refine q _ ?_ fun y hy => ?_
    · unfold PySem.W.minOf
      rcases k1 with e | e
      · rw [e]; simp
      · exact List.mem_cons_of_mem _ e
    · unfold PySem.W.minOf
      rcases List.mem_cons.mp hy with rfl | hy
      · exact k2
      · exact k3 y hy
def minI : List Int → Int
  | [] => 0
  | [n] => n
  | n :: ns => min n (minI ns)
def maxI : List Int → Int
  | [] => 0
  | [n] => n
  | n :: ns => max n (maxI ns)
theorem minI_spec : ∀ (n : Int) (ns : List Int), minI (n :: ns) ∈ n :: ns ∧ ∀ y ∈ n :: ns, minI (n :: ns) ≤ y
  | n, [] => by simp [minI]
  | n, m :: ns => by
    obtain ⟨h1, h2⟩ := minI_spec m ns
    rw [show minI (n :: m :: ns) = min n (minI (m :: ns)) from rfl]
    refine ⟨?_, fun y hy => ?_⟩
    · rcases Int.le_total n (minI (m :: ns)) with h | h
      · rw [Int.min_eq_left h]; simp
      · rw [Int.min_eq_right h]; exact List.mem_cons_of_mem _ h1
    · rcases List.mem_cons.mp hy with rfl | hy
      · exact Int.min_le_left _ _
      · exact Int.le_trans (Int.min_le_right _ _) (h2 y hy)
theorem maxI_spec : ∀ (n : Int) (ns : List Int), maxI (n :: ns) ∈ n :: ns ∧ ∀ y ∈ n :: ns, y ≤ maxI (n :: ns)
  | n, [] => by simp [maxI]
  | n, m :: ns => by
    obtain ⟨h1, h2⟩ := maxI_spec m ns
    rw [show maxI (n :: m :: ns) = max n (maxI (m :: ns)) from rfl]
    refine ⟨?_, fun y hy => ?_⟩
    · rcases Int.le_total n (maxI (m :: ns)) with h | h
      · rw [Int.max_eq_right h]; exact List.mem_cons_of_mem _ h1
      · rw [Int.max_eq_left h]; simp
    · rcases List.mem_cons.mp hy with rfl | hy
      · exact Int.le_max_left _ _
      · exact Int.le_trans (h2 y hy) (Int.le_max_right _ _)
def dMin : OpL := fun ds S => match ds with
  | [.int i, .int j] => some (.int (if j < i then j else i), S)
  | [d] => (itemsOf d S).bind fun xs => (intsOf xs).bind fun ns => if ns = [] then none else some (.int (minI ns), S)
  | _ => none
def dMax : OpL := fun ds S => match ds with
  | [.int i, .int j] => some (.int (if j > i then j else i), S)
  | [d] => if isTup d then none else (itemsOf d S).bind fun xs => (intsOf xs).bind fun ns => if ns = [] then none else some (.int (maxI ns), S)
  | _ => none
theorem ints_rel {H : Hp} {φ : List Addr} : ∀ {xs : List D} {us : List V} {ns : List Int}, RepL c H φ xs us → intsOf xs = some ns → us = ns.map V.int
  | [], us, ns, r, e => by
    unfold RepL at r
    subst r
    cases e
    rfl
  | x :: xs, us, ns, r, e => by
    unfold RepL at r
    obtain ⟨v, vr, rfl, r1, r2⟩ := r
    cases x <;> first
      | (cases e; done)
      | skip
    rename_i i
    unfold intsOf at e
    cases q : intsOf xs with
    | none => rw [q] at e; cases e
    | some ms =>
      rw [q] at e
      cases e
      unfold RepV at r1
      subst r1
      rw [ints_rel r2 q]
      rfl
theorem cd_min (hc : X.calm = true) (hu : X.A.units + 64 < cLine) : CallD X c (.builtin "min") dMin := fun kk => by
  refine CallR.imp (CallR.or (call_min2 hc) (CallR.or (cr_min hc) (call_minT hc hu))) fun vs H Q ⟨φ, S, ds, rs, r, o⟩ => ?_
  unfold dMin at o
  split at o
  · obtain ⟨v, w, rfl, r1, r2⟩ := r.two
    unfold RepV at r1 r2
    subst r1 r2
    exact .inl ⟨_, _, rfl, o φ H _ (.refl _ _) rs rep_int⟩
  · rename_i d
    obtain ⟨v, rfl, rv⟩ := r.one
    cases q1 : itemsOf d S with
    | none => rw [q1] at o; exact o.elim
    | some xs =>
      cases q2 : intsOf xs with
      | none => rw [q1, Option.bind_some, q2] at o; exact o.elim
      | some ns =>
        rw [q1, Option.bind_some, q2, Option.bind_some] at o
        match ns, q2, o with
        | [], _, o => exact o.elim
        | n :: ns, q2, o =>
          have o : OutO c H φ (RepV c) (some (D.int (minI (n :: ns)), S)) Q := o
          obtain ⟨q', us, rfl, k1, k2⟩ := items_at rs rv q1
          have eu := ints_rel k1 q2
          obtain ⟨m1, m2⟩ := minI_spec n ns
          have fin : ∀ m : Int, m ∈ n :: ns → (∀ y, y ∈ n :: ns → m ≤ y) → Q (.int m) H := fun m h1 h2 => by
            have : m = minI (n :: ns) := Int.le_antisymm (h2 _ m1) (m2 m h1)
            subst this
            exact o φ H _ (.refl _ _) rs rep_int
          refine .inr ?_
          rcases k2 with ⟨_, k2⟩ | ⟨_, k2⟩
          · exact .inl ⟨q', n :: ns, rfl, by rw [← kk, ← eu]; exact k2, by simp, fin⟩
          · exact .inr ⟨q', n :: ns, rfl, by rw [← kk, ← eu]; exact k2.sq, by simp, fin⟩
  · exact o.elim
theorem cd_max (hc : X.calm = true) : CallD X c (.builtin "max") dMax := fun kk => by
  refine CallR.imp (CallR.or (call_max2 hc) (cr_max hc)) fun vs H Q ⟨φ, S, ds, rs, r, o⟩ => ?_
  unfold dMax at o
  split at o
  · obtain ⟨v, w, rfl, r1, r2⟩ := r.two
    unfold RepV at r1 r2
    subst r1 r2
    exact .inl ⟨_, _, rfl, o φ H _ (.refl _ _) rs rep_int⟩
  · rename_i d
    obtain ⟨v, rfl, rv⟩ := r.one
    cases qt : isTup d with
    | true => rw [qt, if_pos rfl] at o; exact o.elim
    | false =>
      rw [qt, if_neg (by decide)] at o
      cases q1 : itemsOf d S with
      | none => rw [q1] at o; exact o.elim
      | some xs =>
        cases q2 : intsOf xs with
        | none => rw [q1, Option.bind_some, q2] at o; exact o.elim
        | some ns =>
          rw [q1, Option.bind_some, q2, Option.bind_some] at o
          match ns, q2, o with
          | [], _, o => exact o.elim
          | n :: ns, q2, o =>
            have o : OutO c H φ (RepV c) (some (D.int (maxI (n :: ns)), S)) Q := o
            obtain ⟨q', us, rfl, k1, k2⟩ := items_at rs rv q1
            have eu := ints_rel k1 q2
            obtain ⟨m1, m2⟩ := maxI_spec n ns
            have fin : ∀ m : Int, m ∈ n :: ns → (∀ y, y ∈ n :: ns → y ≤ m) → Q (.int m) H := fun m h1 h2 => by
              have : m = maxI (n :: ns) := Int.le_antisymm (m2 m h1) (h2 _ m1)
              subst this
              exact o φ H _ (.refl _ _) rs rep_int
            rcases k2 with ⟨_, k2⟩ | ⟨k3, k2⟩
            · exact .inr ⟨q', n :: ns, rfl, by rw [← kk, ← eu]; exact k2, by simp, fin⟩
            · rw [qt] at k3
              cases k3
  · exact o.elim
/-! ### len(set(t)) of a tuple of ints -/
def diff : List Int → List Int
  | [] => []
  | n :: ns => if n ∈ ns then diff ns else n :: diff ns
theorem diff_mem : ∀ (ns : List Int) (k : Int), k ∈ diff ns ↔ k ∈ ns
  | [], k => by simp [diff]
  | n :: ns, k => by
    unfold diff
    by_cases h : n ∈ ns
    · rw [if_pos h, diff_mem ns k, List.mem_cons]
      exact ⟨.inr, fun q => q.elim (fun e => e ▸ h) id⟩
    · rw [if_neg h, List.mem_cons, List.mem_cons, diff_mem ns k]
theorem diff_nodup : ∀ ns : List Int, (diff ns).Nodup
  | [] => List.nodup_nil
  | n :: ns => by
    unfold diff
    by_cases h : n ∈ ns
    · rw [if_pos h]; exact diff_nodup ns
    · rw [if_neg h, List.nodup_cons]
      exact ⟨fun q => h ((diff_mem ns n).mp q), diff_nodup ns⟩
theorem diff_le : ∀ ns : List Int, (diff ns).length ≤ ns.length
  | [] => Nat.le_refl _
  | n :: ns => by
    have := diff_le ns
    unfold diff
    split
    · simp; omega
    · simp; omega
theorem diff_self : ∀ ns : List Int, ns.Nodup → diff ns = ns
  | [], _ => rfl
  | n :: ns, h => by
    rw [List.nodup_cons] at h
    unfold diff
    rw [if_neg h.1, diff_self ns h.2]
theorem diff_iff (ns : List Int) : (diff ns).length = ns.length ↔ ns.Nodup := by
  constructor
  · induction ns with
    | nil => intro _; exact List.nodup_nil
    | cons n ns ih =>
      intro h
      have := diff_le ns
      unfold diff at h
      by_cases hm : n ∈ ns
      · rw [if_pos hm] at h
        simp at h
        omega
      · rw [if_neg hm] at h
        rw [List.nodup_cons]
        exact ⟨hm, ih (by simpa using h)⟩
  · intro h
    rw [diff_self ns h]
def tNum (K : PySem.W.Frag) (ta : TE) : TE := fun σ H Q => ta σ H fun x H1 => ∃ (l : Addr) (ns : List Int), x = .ref l ∧ SqT K H1 l (ns.map V.int) ∧ ns.length ≤ 4000 ∧ Q (.int ((diff ns).length : Nat)) H1
theorem pe_num {ta : TE} {p2 q : Pos} (hg : Gl X "len") (hm : X.mg "len" = none) (hg2 : Gl X "set") (hm2 : X.mg "set" = none) (ha : PE X a ta) (hc : X.calm = true := by rfl)
    (na : starEach [a] X.env = (false, eval a X.env) :: starEach [] X.env := by rfl) : PE X (.Call (.Name "len" p) [.Call (.Name "set" p2) [a] [] q] [] pos) (tNum X.K ta) := ⟨fun pins s σ H Q I h => by
  refine Call_ (ld_blt I hg hm boot_len ?_)
  refine PyProof.Rows.callWith_builtin1 (PyProof.Rows.args_cons ?_ rfl) rfl rfl
  refine Call_ (ld_blt I hg2 hm2 boot_set ?_)
  refine PyProof.Rows.callWith_type1 (PyProof.Rows.args_cons (thn (ha.run pins s σ H _ I h) fun v s1 ⟨x, H1, I1, r1, l, ns, e1, hq, hl, q1⟩ => PyProof.Rows.args_nil ?_) na) na rfl
  subst e1
  cases r1
  obtain ⟨its, rv, pt, hz⟩ := I1.tuple hq
  refine call_set_tupI ns (I1.ok.hd hc) (show s1.heap.IsTuple l its.toArray from pt) (ints_of_vals rv) (by unfold scanBound; omega) fun h' tk cc R hcn hk => ?_
  refine PyProof.Rows.args_nil ?_
  obtain ⟨o, es, ep, t, ho, hex, hd, g, nd, hmem, hb, hf, hn, hr, hl2⟩ := R
  have sz : es.size = (diff ns).length := by
    have p1 : (es.toList.map keyOf).Perm (diff ns) := by
      rw [List.perm_ext_iff_of_nodup nd (diff_nodup ns)]
      intro k
      rw [diff_mem, ← hmem k, decide_eq_true_eq]
    have := p1.length_eq
    rw [List.length_map, Array.length_toList] at this
    exact this
  have I2 : Inv X pins σ H1 { s1 with heap := h', toks := tk } := I1.kept fun b o e => hk b o e
  have := diff_le ns
  exact call_len_set ho hex hd hf (by rw [sz]; omega) ⟨.int (diff ns).length, H1, I2.tok _, ⟨_, by rw [sz]⟩, q1⟩⟩
def dNum : D → Sto → Option (D × Sto) := fun d S => match d with
  | .tup xs => (intsOf xs).bind fun ns => if ns.length ≤ 4000 then some (.int ((diff ns).length : Nat), S) else none
  | _ => none
theorem me_num {p2 q : Pos} (h : ME X c W a ea) (hm : X.mg "len" = none) (hm2 : X.mg "set" = none) (hg : Gl X "len" := by rfl) (hg2 : Gl X "set" := by rfl) (hc : X.calm = true := by rfl) (na : starEach [a] X.env = (false, eval a X.env) :: starEach [] X.env := by rfl) :
    ME X c W (.Call (.Name "len" p) [.Call (.Name "set" p2) [a] [] q] [] pos) (eU dNum ea) := fun s => by
  refine PE.imp (pe_num hg hm hg2 hm2 (h s) hc na) fun σ H Q ⟨φ, ρ, S, re, rs, o⟩ => ?_
  refine ⟨φ, ρ, S, re, rs, Out.bind o fun x S1 φ1 H1 v e1 s1 r1 o1 => ?_⟩
  replace o1 := OutO.of o1
  cases x <;> first
    | exact False.elim o1
    | skip
  rename_i xs
  have o1 : OutO c H1 φ1 (RepV c) ((intsOf xs).bind fun ns => if ns.length ≤ 4000 then some (D.int ((diff ns).length : Nat), S1) else none) Q := o1
  cases q : intsOf xs with
  | none => rw [q] at o1; exact o1.elim
  | some ns =>
    rw [q, Option.bind_some] at o1
    by_cases hl : ns.length ≤ 4000
    · rw [if_pos hl] at o1
      unfold RepV at r1
      obtain ⟨q', us, rfl, h1, h2⟩ := r1
      exact ⟨q', ns, rfl, by rw [← s.kk, ← ints_rel h2 q]; exact h1.sq, hl, o1 φ1 H1 _ (.refl _ _) s1 rep_int⟩
    · rw [if_neg hl] at o1
      exact o1.elim
/-! ### list(range(n)) -/
def dListRg : D → Sto → Option (D × Sto) := fun d S => match d with
  | .int n => if n < 1000000 ∧ -1000000 < n then some (.lst S.length, S ++ [rngL 0 n.toNat]) else none
  | _ => none
theorem rgV_rep {H : Hp} {φ : List Addr} (n : Int) : RepL c H φ (rngL 0 n.toNat) (rgV 0 n) := by
  have key : ∀ (l : List Nat), RepL c H φ (l.map fun (k : Nat) => D.int (0 + (k : Int))) (l.map fun (k : Nat) => V.int (0 + (k : Int))) := fun l => by
    induction l with
    | nil => exact .nil
    | cons k l ih => exact .cons (by unfold RepV; rfl) ih
  have e : rgV 0 n = (List.range n.toNat).map fun (k : Nat) => V.int (0 + (k : Int)) := by
    unfold rgV
    simp
  rw [e]
  exact key _
theorem me_listRg {p2 q : Pos} (h : ME X c W a ea) (hm : X.mg "list" = none) (hm2 : X.mg "range" = none) (hg : Gl X "list" := by rfl) (hg2 : Gl X "range" := by rfl) (hc : X.calm = true := by rfl) (na : starEach [a] X.env = (false, eval a X.env) :: starEach [] X.env := by rfl)
    (na2 : starEach [.Call (.Name "range" p2) [a] [] q] X.env = (false, eval (.Call (.Name "range" p2) [a] [] q) X.env) :: starEach [] X.env := by rfl) :
    ME X c W (.Call (.Name "list" p) [.Call (.Name "range" p2) [a] [] q] [] pos) (eU dListRg ea) := fun s => by
  refine PE.imp (pe_listRg hc hg hm (prg_1 hg2 hm2 (h s) na) na2) fun σ H Q ⟨φ, ρ, S, re, rs, o⟩ => ?_
  refine ⟨φ, ρ, S, re, rs, Out.bind o fun x S1 φ1 H1 v e1 s1 r1 o1 => ?_⟩
  replace o1 := OutO.of o1
  cases x <;> first
    | exact False.elim o1
    | skip
  rename_i n
  unfold RepV at r1
  subst r1
  unfold dListRg at o1
  by_cases hl : n < 1000000 ∧ -1000000 < n
  · simp only [if_pos hl] at o1
    refine ⟨n, rfl, ?_⟩
    first
      | exact ⟨⟨by omega, by omega, by omega, by omega, by omega⟩, new_list s1 (rgV_rep n) o1⟩
      | exact new_list s1 (rgV_rep n) o1
  · simp only [if_neg hl] at o1
    exact o1.elim
/-! ### xs[:0:-1] -/
theorem fm_map {α β : Type} {f : α → Option β} {g : α → β} : ∀ {l : List α}, (∀ k ∈ l, f k = some (g k)) → l.filterMap f = l.map g
  | [], _ => rfl
  | k :: l, h => by
    rw [List.filterMap_cons_some (h k (by simp)), fm_map fun j hj => h j (by simp [hj]), List.map_cons]
theorem pick_back (its : List Value) : slicePick its.toArray none (some 0) (some (-1)) = (its.drop 1).reverse.toArray := by
  unfold slicePick
  congr 1
  have hb : sliceBounds none (some 0) (some (-1)) its.toArray.size = ((its.length : Int) - 1, min 0 ((its.length : Int) - 1), -1) := by
    unfold sliceBounds
    simp
    try omega
  rw [hb]
  have hr : sliceRange ((its.length : Int) - 1) (min 0 ((its.length : Int) - 1)) (-1) = (List.range (its.length - 1)).map fun k => its.length - 1 - k := by
    unfold sliceRange
    rw [if_neg (by decide)]
    by_cases h : its.length = 0
    · simp [h]
      decide
    · by_cases h1 : its.length = 1
      · simp [h1]
      · have e : min 0 ((its.length : Int) - 1) = 0 := by omega
        have g : (its.length : Int) - 1 > 0 := by omega
        rw [e, if_pos g]
        have e2 : ((its.length : Int) - 1 - 0 - -1 - 1) / (- -1) = ((its.length - 1 : Nat) : Int) := by
          rw [show (- -1 : Int) = 1 by decide, Int.ediv_one]
          omega
        rw [e2]
        simp only [Int.toNat_natCast]
        refine List.map_congr_left fun k hk => ?_
        have := List.mem_range.mp hk
        omega
  simp only [hr]
  refine List.ext_getElem? fun i => ?_
  rw [List.filterMap_map]
  have hf : (List.range (its.length - 1)).filterMap ((fun x => its.toArray[x]?) ∘ fun k => its.length - 1 - k) = (List.range (its.length - 1)).map fun k => its[its.length - 1 - k]?.getD .none := by
    refine fm_map fun k hk => ?_
    have hk' := List.mem_range.mp hk
    have : its.length - 1 - k < its.length := by omega
    simp [List.getElem?_eq_getElem this]
  rw [hf, List.getElem?_map]
  by_cases hi : i < its.length - 1
  · rw [List.getElem?_range hi, List.getElem?_reverse (by simp; omega), List.getElem?_drop, List.length_drop]
    have e : 1 + (its.length - 1 - 1 - i) = its.length - 1 - i := by omega
    have : its.length - 1 - i < its.length := by omega
    rw [e]
    simp [List.getElem?_eq_getElem this]
  · rw [List.getElem?_eq_none (by simpa using hi), List.getElem?_eq_none (by simp; omega)]
    rfl
def tBack (K : PySem.W.Frag) (te : TE) : TE := fun σ H Q => te σ H fun x H1 => ∃ l us, x = .ref l ∧ SqL K H1 l us ∧ ∀ q, H1 q = none → Q (.ref q) (upd H1 q (.lst (us.drop 1).reverse))
theorem pe_back {te : TE} {k k2 : Nat} {p0 p1 p2 p3 : Pos} (he : PE X a te) : PE X (.Subscript a (.Slice none (some (.Constant (.int 0) k2 p0)) (some (.UnaryOp .USub (.Constant (.int 1) k p1) p2)) p3) pos) (tBack X.K te) := ⟨fun pins s σ H Q I h => by
  refine Subscript_ (thn (he.run pins s σ H _ I h) fun v s1 ⟨x, H1, I1, r1, l, us, ex, hx, q⟩ => ?_)
  subst ex
  cases r1
  have step : PO X (some (.UnaryOp .USub (.Constant (.int 1) k p1) p2)) (tPart (tUn (rU fun i => .int (-i)) (tC (.int 1)))) := po_some (pe_un un_neg pe_int)
  have top : PO X (some (.Constant (.int 0) k2 p0)) (tPart (tC (.int 0))) := po_some pe_int
  refine wpAny_Slice (thn (po_none.run pins s1 σ H1 (fun o H2 => o = none ∧ H2 = H1) I1 ⟨rfl, rfl⟩) fun vl s2 ⟨lo, H2, I2, pl, el, e2⟩ => ?_)
  subst el e2
  refine thn (top.run pins s2 σ H2 (fun o H3 => o = some 0 ∧ H3 = H2) I2 ⟨0, rfl, rfl, rfl⟩) fun vu s3 ⟨u, H3, I3, pu, eu, e3⟩ => ?_
  subst eu e3
  refine thn (step.run pins s3 σ H3 (fun o H4 => o = some (-1) ∧ H4 = H3) I3 ⟨1, rfl, -1, rfl, rfl, rfl⟩) fun vs s4 ⟨o, H4, I4, ps, eo, e4⟩ => ?_
  subst eo e4
  have I5 : Inv X pins σ H4 { s4 with heap := s4.heap.push { cls := .type "slice", data := .fields #[vl, vu, vs] } } :=
    I4.kept (t' := s4.toks) fun b ob q => Heap.get?_push_of_some _ q
  obtain ⟨its, r, ht, hz⟩ := I5.list hx
  have hlen := r.length
  show wpAny (model X.prog X.w) X.A (subscriptTail a (.Slice none (some (.Constant (.int 0) k2 p0)) (some (.UnaryOp .USub (.Constant (.int 1) k p1) p2)) p3) (.ref l) (.ref s4.heap.objs.size)) (EP X pins σ Q) X.xe
    { s4 with heap := s4.heap.push { cls := .type "slice", data := .fields #[vl, vu, vs] } }
  refine tail_any (ops := [.ref l, .ref s4.heap.objs.size]) ht.isList.typeIs (PySem.slot_list_getitem.lookup) ?_ (by with_unfolding_all rfl)
  refine wpAny_getItem_list_slice ht.isList (Heap.IsSliceOf.new _ vl vu vs) pl pu ps (by decide) ?_ (by rw [List.size_toArray]; omega)
  rw [pick_back]
  have hz2 : (us.drop 1).reverse.length ≤ sizeLine := by
    rw [List.length_reverse, List.length_drop]
    omega
  have rv : Vals (us.drop 1).reverse (its.drop 1).reverse := by
    have := r.drop 1
    exact this.reverse
  refine ⟨.ref _, _, I5.laid (t' := s4.toks) (o := .lst (us.drop 1).reverse) (fun b ob q => Heap.get?_push_of_some _ q) (Nat.le_refl _) ⟨hz2, _, 0, rv, Heap.get?_push_size _ rfl⟩, rfl, q _ (I5.hok.fresh (Nat.le_refl _))⟩⟩
def dBack (d : D) (S : Sto) : Option (D × Sto) := match d with
  | .lst l => (S[l]?).map fun xs => (.lst S.length, S ++ [(xs.drop 1).reverse])
  | _ => none
theorem me_back {k k2 : Nat} {p0 p1 p2 p3 : Pos} (h : ME X c W a ea) : ME X c W (.Subscript a (.Slice none (some (.Constant (.int 0) k2 p0)) (some (.UnaryOp .USub (.Constant (.int 1) k p1) p2)) p3) pos) (eU dBack ea) := fun s => by
  refine PE.imp (pe_back (h s)) fun σ H Q ⟨φ, ρ, S, re, rs, o⟩ => ?_
  refine ⟨φ, ρ, S, re, rs, Out.bind o fun x S1 φ1 H1 v e1 s1 r1 o1 => ?_⟩
  replace o1 := OutO.of o1
  cases x <;> first
    | exact False.elim o1
    | skip
  rename_i l
  unfold RepV at r1
  obtain ⟨a', rfl, h1⟩ := r1
  have o1 : OutO c H1 φ1 (RepV c) ((S1[l]?).map fun xs => (D.lst S1.length, S1 ++ [(xs.drop 1).reverse])) Q := o1
  cases q0 : S1[l]? with
  | none => rw [q0] at o1; exact o1.elim
  | some xs =>
    rw [q0] at o1
    obtain ⟨a2, us, g1, g2, g3⟩ := s1.at_ l xs q0
    rw [h1] at g1
    cases g1
    exact ⟨a', us, rfl, SqL.of g2, new_list s1 (g3.drop 1).reverse o1⟩
end
end MP
end
section
set_option Elab.async false
set_option linter.all false
set_option maxRecDepth 100000
set_option maxHeartbeats 1000000
/-! MPH: comprehensions of two clauses. -/
namespace MP
open PySem PySem.Spec PyProof.Rows L2
/-- what the inner loop leaves, the outer one going on -/
noncomputable def goOn (r : Res (List D)) (k : List D → Sto → Res (List D)) : Res (List D) := match r with
  | .ok a S => k a S
  | _ => .stuck
open Classical in
noncomputable def lc2Loop (st : Sto → Prop) (b : D → Env → Option Env) (t : EvB) (src1 : Env → Sto → Res Src) (b1 : D → Env → Option Env) (t1 : EvB) (e : Ev) (vs1 : List Nat) (ρ : Env) : List D → List D → Sto → Res (List D)
  | [], acc, S => if st S then .ok acc S else .stuck
  | x :: xs, acc, S => if st S then (match b x ρ with
    | none => .stuck
    | some ρ1 => match t ρ1 S with
      | .ok k S1 => if k = true then (match src1 ρ1 S1 with
          | .ok z S2 => goOn (lcLoop z.st b1 t1 e (wipeE ρ1 vs1) z.xs acc S2) (lc2Loop st b t src1 b1 t1 e vs1 ρ xs)
          | .exc .. => .stuck
          | .stuck => .stuck) else lc2Loop st b t src1 b1 t1 e vs1 ρ xs acc S1
      | .exc .. => .stuck
      | .stuck => .stuck) else .stuck
noncomputable def eLc2 (src : Env → Sto → Res Src) (b : D → Env → Option Env) (t : EvB) (src1 : Env → Sto → Res Src) (b1 : D → Env → Option Env) (t1 : EvB) (e : Ev) (vs vs1 : List Nat) : Ev := fun ρ S => (src ρ S).bind fun z S1 => (lc2Loop z.st b t src1 b1 t1 e vs1 (wipeE ρ vs) z.xs [] S1).bind fun acc S2 => .ok (.lst S2.length) (S2 ++ [acc])
/-- a later heap, lists beside apart -/
structure ExtW (H : Hp) (φ : List Addr) (H' : Hp) (φ' : List Addr) : Prop where
  pre : φ <+: φ'
  keep : ∀ b o, H b = some o → b ∉ φ → (∀ vs, o ≠ .lst vs) → H' b = some o
  new : ∀ b, b ∈ φ' → b ∉ φ → ∀ o, H b = some o → ∃ vs, o = .lst vs
theorem Ext.w {H H' : Hp} {φ φ' : List Addr} (e : Ext H φ H' φ') : ExtW H φ H' φ' := ⟨e.pre, fun b o h n _ => e.keep b o h n, fun b m n o h => by
  rw [e.new b m n] at h
  cases h⟩
theorem ExtW.trans {H H1 H2 : Hp} {φ φ1 φ2 : List Addr} (a : ExtW H φ H1 φ1) (b : ExtW H1 φ1 H2 φ2) : ExtW H φ H2 φ2 where
  pre := List.IsPrefix.trans a.pre b.pre
  keep := fun x o h n k => b.keep x o (a.keep x o h n k) (fun m => by
    obtain ⟨vs, e⟩ := a.new x m n o h
    exact k vs e) k
  new := fun x m n o h => by
    by_cases k : ∃ vs, o = .lst vs
    · exact k
    · have h1 := a.keep x o h n fun vs e => k ⟨vs, e⟩
      by_cases m1 : x ∈ φ1
      · exact a.new x m1 n o h
      · exact b.new x m m1 o h1
section
variable {c : Cz} {H H' : Hp} {φ φ' : List Addr} {S : Sto}
theorem SqT.extW {K : PySem.W.Frag} (hφ : ∀ a, a ∈ φ → ∃ vs, H a = some (.lst vs)) (e : ExtW H φ H' φ') {a : Addr} {xs : List V} (h : SqT K H a xs) : SqT K H' a xs := by
  rcases h with (h | ⟨o, h⟩) | h
  · exact .inl (.inl (e.keep _ _ h (not_in hφ h (fun _ q => by cases q)) (fun _ q => by cases q)))
  · exact .inl (.inr ⟨o, e.keep _ _ h (not_in hφ h (fun _ q => by cases q)) (fun _ q => by cases q)⟩)
  · exact .inr h
theorem SqN.extW {K : PySem.W.Frag} (hφ : ∀ a, a ∈ φ → ∃ vs, H a = some (.lst vs)) (e : ExtW H φ H' φ') {a : Addr} {xs : List V} (h : SqN K H a xs) : SqN K H' a xs := by
  rcases h with ⟨o, h1, h⟩ | h
  · exact .inl ⟨o, h1, e.keep _ _ h (not_in hφ h (fun _ q => by cases q)) (fun _ q => by cases q)⟩
  · exact .inr h
theorem Frz.extW {K : PySem.W.Frag} (hφ : ∀ a, a ∈ φ → ∃ vs, H a = some (.lst vs)) (e : ExtW H φ H' φ') {a : Addr} {xs : List V} (h : Frz K H a xs) : Frz K H' a xs := by
  rcases h with ⟨o, h⟩ | h
  · exact .inl ⟨o, e.keep _ _ h (not_in hφ h (fun _ q => by cases q)) (fun _ q => by cases q)⟩
  · exact .inr h
mutual
theorem RepV.extW (hφ : ∀ a, a ∈ φ → ∃ vs, H a = some (.lst vs)) (e : ExtW H φ H' φ') : ∀ (d : D) (v : V), RepV c H φ d v → RepV c H' φ' d v
  | .non, _, h => by unfold RepV at h ⊢; exact h
  | .bl _, _, h => by unfold RepV at h ⊢; exact h
  | .int _, _, h => by unfold RepV at h ⊢; exact h
  | .str _, _, h => by unfold RepV at h ⊢; exact h
  | .tup ds, _, h => by
    unfold RepV at h ⊢
    obtain ⟨a, xs, e1, e2, e3⟩ := h
    exact ⟨a, xs, e1, SqN.extW hφ e e2, RepL.extW hφ e ds xs e3⟩
  | .wk ds, _, h => by
    unfold RepV at h ⊢
    obtain ⟨a, xs, e1, e2, e3⟩ := h
    exact ⟨a, xs, e1, SqT.extW hφ e e2, RepL.extW hφ e ds xs e3⟩
  | .lst l, _, h => by
    unfold RepV at h ⊢
    obtain ⟨a, e1, e2⟩ := h
    exact ⟨a, e1, pre_get e.pre e2⟩
  | .frl ds, _, h => by
    unfold RepV at h ⊢
    obtain ⟨a, xs, e1, e2, e3⟩ := h
    exact ⟨a, xs, e1, Frz.extW hφ e e2, RepL.extW hφ e ds xs e3⟩
  | .exn n ns ds, _, h => by
    unfold RepV at h ⊢
    obtain ⟨a, cls, d, vs, e1, e2, e3, e4, e5, e6⟩ := h
    exact ⟨a, cls, d, vs, e1, e2, e3, e.keep _ _ e4 (not_in hφ e4 (fun _ q => by cases q)) (fun _ q => by cases q), e5, RepL.extW hφ e ds vs e6⟩
theorem RepL.extW (hφ : ∀ a, a ∈ φ → ∃ vs, H a = some (.lst vs)) (e : ExtW H φ H' φ') : ∀ (ds : List D) (vs : List V), RepL c H φ ds vs → RepL c H' φ' ds vs
  | [], _, h => by unfold RepL at h ⊢; exact h
  | d :: ds, _, h => by
    unfold RepL at h ⊢
    obtain ⟨v, vr, e1, e2, e3⟩ := h
    exact ⟨v, vr, e1, RepV.extW hφ e d v e2, RepL.extW hφ e ds vr e3⟩
end
end
/-! what is walked in an inner clause -/
def ItOkW (c : Cz) (z : Src) (J : It) (H : Hp) (φ : List Addr) : Prop :=
  ∀ (H2 : Hp) (φ2 : List Addr) (S2 : Sto) (i : Nat), ExtW H φ H2 φ2 → RepS c H2 φ2 S2 → z.st S2 →
    (∀ x, z.xs[i]? = some x → J.go i H2 ∧ ∀ v H3, J.yld i H2 v H3 → Ext H2 φ2 H3 φ2 ∧ RepS c H3 φ2 S2 ∧ RepV c H3 φ2 x v) ∧ (z.xs.length ≤ i → J.stop i H2)
def TImW (c : Cz) (W : WX) (ev : Env → Sto → Res Src) : TI := fun σ H R => ∃ φ ρ S, RepE c H φ ρ σ ∧ RepS c H φ S ∧ Out c H φ (fun H' φ' z J => ItOkW c z J H' φ') (ev ρ S) R (fun cls d H' => W cls d σ H')
def MIW (X : Cx) (c : Cz) (W : WX) (tg iter : Expr) (ev : Env → Sto → Res Src) : Prop := Sh X c W → PI X tg iter (TImW c W ev)
section
variable {X : Cx} {c : Cz} {W : WX} {a b d : Expr} {ea eb ed : Ev} {pos : Pos} {tg tg1 : Expr}
theorem itl_okW {z : Src} {a : Addr} {H : Hp} {φ : List Addr} (h : ∀ H2 φ2 S2, ExtW H φ H2 φ2 → RepS c H2 φ2 S2 → z.st S2 → ∃ us, SqL c.K H2 a us ∧ RepL c H2 φ2 z.xs us) : ItOkW c z (Itl c.K a) H φ := by
  intro H2 φ2 S2 i e s hst
  obtain ⟨us, sq, rl⟩ := h H2 φ2 S2 e s hst
  refine ⟨fun x hx => ?_, fun hl => ⟨us, sq, by rw [← rl.length]; exact hl⟩⟩
  obtain ⟨v, hv, rv⟩ := rl.get hx
  refine ⟨⟨us, v, sq, hv⟩, fun v' H3 ⟨e3, y⟩ => ?_⟩
  subst e3
  have := y us sq
  rw [hv] at this
  cases this
  exact ⟨.refl _ _, s, rv⟩
theorem itt_okW {z : Src} {a : Addr} {H : Hp} {φ : List Addr} (h : ∀ H2 φ2 S2, ExtW H φ H2 φ2 → RepS c H2 φ2 S2 → z.st S2 → ∃ us, SqT c.K H2 a us ∧ RepL c H2 φ2 z.xs us) : ItOkW c z (Itt c.K a) H φ := by
  intro H2 φ2 S2 i e s hst
  obtain ⟨us, sq, rl⟩ := h H2 φ2 S2 e s hst
  refine ⟨fun x hx => ?_, fun hl => ⟨us, sq, by rw [← rl.length]; exact hl⟩⟩
  obtain ⟨v, hv, rv⟩ := rl.get hx
  refine ⟨⟨us, v, sq, hv⟩, fun v' H3 ⟨e3, y⟩ => ?_⟩
  subst e3
  have := y us sq
  rw [hv] at this
  cases this
  exact ⟨.refl _ _, s, rv⟩
theorem src_atW {d : D} {v : V} {z : Src} {H : Hp} {φ : List Addr} {S : Sto} (rs : RepS c H φ S) (r : RepV c H φ d v) (e : srcOf d S = some z) :
    ∃ a, v = .ref a ∧ ((∃ us, SqL c.K H a us ∧ (∀ H2 φ2 S2, ExtW H φ H2 φ2 → RepS c H2 φ2 S2 → z.st S2 → ∃ us, SqL c.K H2 a us ∧ RepL c H2 φ2 z.xs us)) ∨
      (∃ us, SqT c.K H a us ∧ (∀ H2 φ2 S2, ExtW H φ H2 φ2 → RepS c H2 φ2 S2 → z.st S2 → ∃ us, SqT c.K H2 a us ∧ RepL c H2 φ2 z.xs us))) := by
  cases d <;> first
    | (cases e; done)
    | skip
  · rename_i xs
    cases e
    unfold RepV at r
    obtain ⟨a, us, rfl, sq, rl⟩ := r
    exact ⟨a, rfl, .inr ⟨us, sq.sq, fun H2 φ2 S2 e s _ => ⟨us, SqT.extW rs.ls e sq.sq, RepL.extW rs.ls e _ _ rl⟩⟩⟩
  · rename_i l
    unfold RepV at r
    obtain ⟨a, rfl, hl⟩ := r
    have e : (S[l]?).map (fun xs => (⟨xs, fun S' => S'[l]? = some xs⟩ : Src)) = some z := e
    cases q : S[l]? with
    | none => rw [q] at e; cases e
    | some xs =>
      rw [q] at e
      cases e
      obtain ⟨a', us, h1, h2, h3⟩ := rs.at_ l xs q
      rw [hl] at h1
      cases h1
      refine ⟨a, rfl, .inl ⟨us, SqL.of h2, fun H2 φ2 S2 e s hst => ?_⟩⟩
      obtain ⟨a2, us2, g1, g2, g3⟩ := s.at_ l xs hst
      rw [pre_get e.pre hl] at g1
      cases g1
      exact ⟨us2, SqL.of g2, g3⟩
  · rename_i xs
    cases e
    unfold RepV at r
    obtain ⟨a, us, rfl, sq, rl⟩ := r
    exact ⟨a, rfl, .inl ⟨us, sq.sq, fun H2 φ2 S2 e s _ => ⟨us, (Frz.extW rs.ls e sq).sq, RepL.extW rs.ls e _ _ rl⟩⟩⟩
theorem miw_seq (h : ME X c W a ea) : MIW X c W tg a (iSeq ea) := fun s => by
  refine PI.imp (pi_either (h s)) fun σ H R ⟨φ, ρ, S, re, rs, o⟩ => ?_
  refine ⟨φ, ρ, S, re, rs, Out.bind o fun x S1 φ1 H1 v e1 s1 r1 o1 => ?_⟩
  cases eq : srcOf x S1 with
  | none => rw [eq] at o1; exact o1.elim
  | some z =>
    rw [eq] at o1
    obtain ⟨a', rfl, q⟩ := src_atW s1 r1 eq
    rw [← s.kk]
    refine ⟨a', rfl, ?_⟩
    rcases q with ⟨us, sq, k⟩ | ⟨us, sq, k⟩
    · exact .inl ⟨us, sq, o1 φ1 H1 _ (.refl _ _) s1 (itl_okW k)⟩
    · exact .inr ⟨us, sq, o1 φ1 H1 _ (.refl _ _) s1 (itt_okW k)⟩
theorem itr_okW {lo : Int} {n : Nat} {H : Hp} {φ : List Addr} : ItOkW c ⟨rngL lo n, fun _ => True⟩ (Itr lo n) H φ := by
  intro H2 φ2 S2 i e s _
  refine ⟨fun x hx => ?_, fun hl => by rw [rngL_length] at hl; exact hl⟩
  obtain ⟨hi, rfl⟩ := rngL_get hx
  refine ⟨hi, fun v H3 ⟨e3, ev⟩ => ?_⟩
  subst e3 ev
  exact ⟨.refl _ _, s, by unfold RepV; rfl⟩
theorem miw_range1 {ra : EvA} {p : Pos} (h : MA X c W [a] ra) (hm : X.mg "range" = none) (hg : Gl X "range" := by rfl) (hs : starEach [a] X.env = [(false, eval a X.env)] := by rfl) : MIW X c W tg (.Call (.Name "range" p) [a] [] pos) (iRange rng1 ra) := fun s => by
  refine PI.imp (pi_range1 hg hm (h s) hs) fun σ H R ⟨φ, ρ, S, re, rs, o⟩ => ?_
  refine ⟨φ, ρ, S, re, rs, Out.bind o fun x S1 φ1 H1 v e1 s1 r1 o1 => ?_⟩
  unfold rng1 at o1
  split at o1
  · rename_i j
    split at o1
    · rename_i hj
      obtain ⟨v1, rfl, r2⟩ := r1.one
      unfold RepV at r2
      subst r2
      exact ⟨j, rfl, hj.2, hj.1, o1 φ1 H1 _ (.refl _ _) s1 itr_okW⟩
    · exact o1.elim
  · exact o1.elim
theorem miw_range2 {ra : EvA} {p : Pos} (h : MA X c W [a, b] ra) (hm : X.mg "range" = none) (hg : Gl X "range" := by rfl) (hs : starEach [a, b] X.env = [(false, eval a X.env), (false, eval b X.env)] := by rfl) (hs2 : starEach [b] X.env = [(false, eval b X.env)] := by rfl) :
    MIW X c W tg (.Call (.Name "range" p) [a, b] [] pos) (iRange rng2 ra) := fun s => by
  refine PI.imp (pi_range2 hg hm (h s) hs hs2) fun σ H R ⟨φ, ρ, S, re, rs, o⟩ => ?_
  refine ⟨φ, ρ, S, re, rs, Out.bind o fun x S1 φ1 H1 v e1 s1 r1 o1 => ?_⟩
  unfold rng2 at o1
  split at o1
  · rename_i i j
    split at o1
    · rename_i hj
      obtain ⟨v1, v2, rfl, r2, r4⟩ := r1.two
      unfold RepV at r2 r4
      subst r2 r4
      exact ⟨i, j, rfl, ⟨hj.1.2, hj.1.1, hj.2.2, hj.2.1⟩, o1 φ1 H1 _ (.refl _ _) s1 itr_okW⟩
    · exact o1.elim
  · exact o1.elim
end
section
variable {X : Cx} {c : Cz} {W : WX} {a b d : Expr} {ea eb ed : Ev} {pos : Pos} {tg tg1 : Expr}
theorem extE {H H' : Hp} {φ φ' : List Addr} {S : Sto} {ρ : Env} {σ : St} (r : RepE c H φ ρ σ) (rs : RepS c H φ S) (e : ExtW H φ H' φ') : RepE c H' φ' ρ σ := ⟨r.1, fun i d q => by
  obtain ⟨v, h1, h2⟩ := r.2 i d q
  exact ⟨v, h1, RepV.extW rs.ls e _ _ h2⟩⟩
theorem lc2_read {σ : St} {H : Hp} {Q : VK} {src src1 : Env → Sto → Res Src} {g g1 : D → Env → Option Env} {vs vs1 own : List Nat} {et et1 : EvB} {ee : Ev} (hv : ∀ j ∈ vs, j ∈ own)
    (h : TEm c W (eLc2 src g et src1 g1 et1 ee own vs1) σ H Q) : tLc2 (TIm c W src) (TGm c vs g) (TTm c W0 et) (TImW c W0 src1) (TGm c vs1 g1) (TTm c W0 et1) (TEm c W0 ee) own vs1 σ H Q := by
  obtain ⟨φ, ρ, S, re, rs, o⟩ := h
  refine ⟨φ, ρ, S, re, rs, Out.bind o fun z S1 φ1 H1 J e1 s1 it o1 => ?_⟩
  have re1 := re.ext rs e1
  intro D' hD
  have npD : D' ∉ φ1 := fun m => by
    obtain ⟨_, q⟩ := s1.isl m
    rw [hD] at q
    cases q
  have e0 : Ext H1 φ1 (upd H1 D' (.lst [])) φ1 := (s1.keep (upd_keep hD)).2
  refine ⟨fun i m H2 => m = z.xs.length - i ∧ i ≤ z.xs.length ∧ ∃ φ2 S2 acc us, Ext H1 φ1 H2 φ2 ∧ RepS c H2 φ2 S2 ∧ H2 D' = some (.lst us) ∧ D' ∉ φ2 ∧ RepL c H2 φ2 acc us ∧
      Out c H1 φ1 (RepV c) ((lc2Loop z.st g et src1 g1 et1 ee vs1 (wipeE ρ own) (z.xs.drop i) acc S2).bind fun acc S2 => .ok (.lst S2.length) (S2 ++ [acc])) Q (fun cls d H' => W cls d σ H'),
    ⟨z.xs.length, by simp, Nat.zero_le _, φ1, S1, [], [], e0, (s1.keep (upd_keep hD)).1, upd_same, npD, .nil, o1⟩, ?_⟩
  rintro i m H2 ⟨rfl, hle, φ2, S2, acc, us, e2, s2, h2D, n2D, ra, o2⟩
  by_cases hlt : i < z.xs.length
  · refine .inr ?_
    have hx : z.xs[i]? = some z.xs[i] := List.getElem?_eq_getElem hlt
    rw [List.drop_eq_getElem_cons hlt] at o2
    unfold lc2Loop at o2
    split at o2
    · rename_i hst
      obtain ⟨go, yl⟩ := (it H2 φ2 S2 i e2 s2 hst).1 _ hx
      split at o2
      · exact o2.elim
      · rename_i ρ3 eg
        refine ⟨go, fun H' => i + 1 ≤ z.xs.length ∧ ∃ φ2 S2 acc us, Ext H1 φ1 H' φ2 ∧ RepS c H' φ2 S2 ∧ H' D' = some (.lst us) ∧ D' ∉ φ2 ∧ RepL c H' φ2 acc us ∧
            Out c H1 φ1 (RepV c) ((lc2Loop z.st g et src1 g1 et1 ee vs1 (wipeE ρ own) (z.xs.drop (i + 1)) acc S2).bind fun acc S2 => .ok (.lst S2.length) (S2 ++ [acc])) Q (fun cls d H' => W cls d σ H'),
          fun H' n => ⟨z.xs.length - (i + 1), by omega, rfl, n⟩, fun v H3 y => ?_⟩
        obtain ⟨e3, s3, r3⟩ := yl v H3 y
        obtain ⟨h3D, n3D⟩ := e3.stays h2D n2D
        have ra3 := RepL.ext s2.ls e3 _ _ ra
        have e13 := e2.trans e3
        refine ⟨φ2, wipeE ρ own, S2, _, ρ3, (re1.ext s1 e13).wipe own, s3, r3, eg, fun σ3 re3 sb => ⟨?_, φ2, ρ3, S2, re3, s3, ?_⟩⟩
        · have := wipe_eq own (σ := wipe σ own) (σ' := σ3) sb.1 fun j hj => sb.2 j fun q => hj (hv j q)
          rw [this]
          exact wipe_eq own (by rw [wipe_length]) fun j hj => (wipe_at own σ j).2 hj
        · revert o2
          cases et ρ3 S2 with
          | ok k S4 =>
            intro o2 φ4 H4 k' e4 s4 hk
            unfold eqB at hk
            subst hk
            obtain ⟨h4D, n4D⟩ := e4.stays h3D n3D
            have ra4 := RepL.ext s3.ls e4 _ _ ra3
            have e14 := e13.trans e4
            have re4 := re3.ext s3 e4
            cases k with
            | true =>
              refine iteT ⟨φ4, ρ3, S4, re4, s4, ?_⟩
              have o2 : Out c H1 φ1 (RepV c) ((match src1 ρ3 S4 with
                | .ok z1 S2 => goOn (lcLoop z1.st g1 et1 ee (wipeE ρ3 vs1) z1.xs acc S2) (lc2Loop z.st g et src1 g1 et1 ee vs1 (wipeE ρ own) (z.xs.drop (i + 1)))
                | .exc .. => .stuck
                | .stuck => .stuck : Res (List D)).bind fun acc S2 => .ok (.lst S2.length) (S2 ++ [acc])) Q (fun cls d H' => W cls d σ H') := o2
              revert o2
              cases src1 ρ3 S4 with
              | ok z1 S5 =>
                intro o2 φ5 H5 J1 e5 s5 it1
                obtain ⟨h5D, n5D⟩ := e5.stays h4D n4D
                have ra5 := RepL.ext s4.ls e5 _ _ ra4
                have e15 := e14.trans e5
                have re5 := re4.ext s4 e5
                refine ⟨fun j m H => m = z1.xs.length - j ∧ j ≤ z1.xs.length ∧ ∃ φ6 S6 acc us, ExtW H5 φ5 H φ6 ∧ Ext H1 φ1 H φ6 ∧ RepS c H φ6 S6 ∧ H D' = some (.lst us) ∧ D' ∉ φ6 ∧ RepL c H φ6 acc us ∧
                    Out c H1 φ1 (RepV c) ((goOn (lcLoop z1.st g1 et1 ee (wipeE ρ3 vs1) (z1.xs.drop j) acc S6) (lc2Loop z.st g et src1 g1 et1 ee vs1 (wipeE ρ own) (z.xs.drop (i + 1)))).bind fun acc S2 => .ok (.lst S2.length) (S2 ++ [acc])) Q (fun cls d H' => W cls d σ H'),
                  ⟨z1.xs.length, by simp, Nat.zero_le _, φ5, S5, acc, us, (Ext.refl _ _).w, e15, s5, h5D, n5D, ra5, o2⟩, ?_⟩
                rintro j m H6 ⟨rfl, hle1, φ6, S6, acc6, us6, e56, e16, s6, h6D, n6D, ra6, o6⟩
                by_cases hlt1 : j < z1.xs.length
                · refine .inr ?_
                  have hx1 : z1.xs[j]? = some z1.xs[j] := List.getElem?_eq_getElem hlt1
                  rw [List.drop_eq_getElem_cons hlt1] at o6
                  unfold lcLoop at o6
                  split at o6
                  · rename_i hst1
                    obtain ⟨go1, yl1⟩ := (it1 H6 φ6 S6 j e56 s6 hst1).1 _ hx1
                    split at o6
                    · exact o6.elim
                    · rename_i ρ7 eg1
                      refine ⟨go1, fun H' => j + 1 ≤ z1.xs.length ∧ ∃ φ6 S6 acc us, ExtW H5 φ5 H' φ6 ∧ Ext H1 φ1 H' φ6 ∧ RepS c H' φ6 S6 ∧ H' D' = some (.lst us) ∧ D' ∉ φ6 ∧ RepL c H' φ6 acc us ∧
                          Out c H1 φ1 (RepV c) ((goOn (lcLoop z1.st g1 et1 ee (wipeE ρ3 vs1) (z1.xs.drop (j + 1)) acc S6) (lc2Loop z.st g et src1 g1 et1 ee vs1 (wipeE ρ own) (z.xs.drop (i + 1)))).bind fun acc S2 => .ok (.lst S2.length) (S2 ++ [acc])) Q (fun cls d H' => W cls d σ H'),
                        fun H' n => ⟨z1.xs.length - (j + 1), by omega, rfl, n⟩, fun v7 H7 y7 => ?_⟩
                      obtain ⟨e7, s7, r7⟩ := yl1 v7 H7 y7
                      obtain ⟨h7D, n7D⟩ := e7.stays h6D n6D
                      have ra7 := RepL.ext s6.ls e7 _ _ ra6
                      have re7 := (extE re5 s5 (e56.trans e7.w)).wipe vs1
                      refine ⟨φ6, wipeE ρ3 vs1, S6, _, ρ7, re7, s7, r7, eg1, fun σ7 re7 sb7 => ⟨?_, φ6, ρ7, S6, re7, s7, ?_⟩⟩
                      · have := wipe_eq vs1 (σ := wipe σ3 vs1) (σ' := σ7) sb7.1 fun j hj => sb7.2 j fun q => hj q
                        rw [this]
                        exact wipe_eq vs1 (by rw [wipe_length]) fun j hj => (wipe_at vs1 σ3 j).2 hj
                      · revert o6
                        cases et1 ρ7 S6 with
                        | ok k7 S8 =>
                          intro o6 φ8 H8 k8 e8 s8 hk8
                          unfold eqB at hk8
                          subst hk8
                          obtain ⟨h8D, n8D⟩ := e8.stays h7D n7D
                          have ra8 := RepL.ext s7.ls e8 _ _ ra7
                          cases k7 with
                          | true =>
                            refine iteT ⟨φ8, ρ7, S8, re7.ext s7 e8, s8, ?_⟩
                            have o6 : Out c H1 φ1 (RepV c) ((goOn (match ee ρ7 S8 with
                              | .ok d S2 => if acc6.length < 1000000 then lcLoop z1.st g1 et1 ee (wipeE ρ3 vs1) (z1.xs.drop (j + 1)) (acc6 ++ [d]) S2 else .stuck
                              | .exc .. => .stuck
                              | .stuck => .stuck) (lc2Loop z.st g et src1 g1 et1 ee vs1 (wipeE ρ own) (z.xs.drop (i + 1)))).bind fun acc S2 => .ok (.lst S2.length) (S2 ++ [acc])) Q (fun cls d H' => W cls d σ H') := o6
                            revert o6
                            cases ee ρ7 S8 with
                            | ok d S9 =>
                              intro o6 φ9 H9 y9 e9 s9 r9
                              obtain ⟨h9D, n9D⟩ := e9.stays h8D n8D
                              have ra9 := RepL.ext s8.ls e9 _ _ ra8
                              have e79 := e7.trans (e8.trans e9)
                              by_cases hlen : acc6.length < 1000000
                              · simp only [if_pos hlen] at o6
                                refine ⟨us6, h9D, ?_, hlt1, φ9, S9, acc6 ++ [d], us6 ++ [y9], ?_, ?_, s9.aside h9D n9D, upd_same, n9D, RepL.aside h9D _ _ (ra9.append (.cons r9 .nil)), o6⟩
                                · rw [← ra6.length]
                                  exact Nat.lt_trans hlen (by decide)
                                · have e59 := e56.trans e79.w
                                  refine ⟨e59.pre, fun b o hb nb k => ?_, e59.new⟩
                                  have hbD : b ≠ D' := fun q => by
                                    subst q
                                    rw [h5D] at hb
                                    cases hb
                                    exact k _ rfl
                                  rw [upd_ne hbD]
                                  exact e59.keep b o hb nb k
                                · have e19 := e16.trans e79
                                  refine ⟨e19.pre, fun b o hb nb => ?_, e19.new⟩
                                  rw [upd_ne (ne_of_none hb hD)]
                                  exact e19.keep b o hb nb
                              · simp only [if_neg hlen] at o6
                                exact o6.elim
                            | exc n ns ds S9 => intro o6; exact o6.elim
                            | stuck => intro o6; exact o6.elim
                          | false =>
                            exact iteF ⟨hlt1, φ8, S8, acc6, us6, e56.trans (e7.trans e8).w, e16.trans (e7.trans e8), s8, h8D, n8D, ra8, o6⟩
                        | exc n ns ds S8 => intro o6; exact o6.elim
                        | stuck => intro o6; exact o6.elim
                  · exact o6.elim
                · refine .inl ?_
                  have : z1.xs.drop j = [] := List.drop_eq_nil_of_le (by omega)
                  rw [this] at o6
                  unfold lcLoop at o6
                  split at o6
                  · rename_i hst1
                    exact ⟨(it1 H6 φ6 S6 j e56 s6 hst1).2 (by omega), hlt, φ6, S6, acc6, us6, e16, s6, h6D, n6D, ra6, o6⟩
                  · exact o6.elim
              | exc n ns ds S5 => intro o2; exact o2.elim
              | stuck => intro o2; exact o2.elim
            | false =>
              exact iteF ⟨hlt, φ4, S4, acc, us, e14, s4, h4D, n4D, ra4, o2⟩
          | exc n ns ds S4 => intro o2; exact o2.elim
          | stuck => intro o2; exact o2.elim
    · exact o2.elim
  · refine .inl ?_
    have : z.xs.drop i = [] := List.drop_eq_nil_of_le (by omega)
    rw [this] at o2
    unfold lc2Loop at o2
    split at o2
    · rename_i hst
      refine ⟨(it H2 φ2 S2 i e2 s2 hst).2 (by omega), o2 (φ2 ++ [D']) H2 _ ?_ (s2.adopt h2D n2D ra) ?_⟩
      · refine ⟨e2.pre.trans (List.prefix_append _ _), e2.keep, fun b hb nb => ?_⟩
        rcases List.mem_append.mp hb with hb | hb
        · exact e2.new b hb nb
        · simp at hb
          subst hb
          exact hD
      · unfold RepV
        refine ⟨D', rfl, ?_⟩
        rw [← s2.len, List.getElem?_append_right (Nat.le_refl _)]
        simp
    · exact o2.elim
theorem me_lc2 {elt tg iter tg1 iter1 : Expr} {ifs ifs1 : List Expr} {scope : Scope} {own : List (Str × Nat)} {src src1 : Env → Sto → Res Src} {g g1 : D → Env → Option Env} {vs vs1 : List Nat} {et et1 : EvB} {ee : Ev}
    (hi : MI X c W tg iter src) (ok : BlkOk X.N X.env.scope scope own) (hg : ∀ (s : Shared) (H : Hp) (C : Addr) (cl : List (Str × Addr)) (fp : List Addr), MG (X.blk s H scope (compEnvC scope cl C X.env) fp) c tg vs g)
    (ht : ∀ (s : Shared) (H : Hp) (C : Addr) (cl : List (Str × Addr)) (fp : List Addr), MTs (X.blk s H scope (compEnvC scope cl C X.env) fp) c W0 ifs et)
    (hi1 : ∀ (s : Shared) (H : Hp) (C : Addr) (cl : List (Str × Addr)) (fp : List Addr), MIW (X.blk s H scope (compEnvC scope cl C X.env) fp) c W0 tg1 iter1 src1)
    (hg1 : ∀ (s : Shared) (H : Hp) (C : Addr) (cl : List (Str × Addr)) (fp : List Addr), MG (X.blk s H scope (compEnvC scope cl C X.env) fp) c tg1 vs1 g1)
    (ht1 : ∀ (s : Shared) (H : Hp) (C : Addr) (cl : List (Str × Addr)) (fp : List Addr), MTs (X.blk s H scope (compEnvC scope cl C X.env) fp) c W0 ifs1 et1)
    (he : ∀ (s : Shared) (H : Hp) (C : Addr) (cl : List (Str × Addr)) (fp : List Addr), ME (X.blk s H scope (compEnvC scope cl C X.env) fp) c W0 elt ee)
    (hv : ∀ j ∈ vs, j ∈ own.map (·.2)) (hv1 : ∀ j ∈ vs1, j ∈ own.map (·.2)) (hc : X.calm = true := by rfl) (hs : ∀ x, foldedSetIterable iter X.env x = pure x := by intro _; rfl) (hs1 : ∀ env x, foldedSetIterable iter1 env x = pure x := by intro _ _; rfl) :
    ME X c W (.ListComp elt [⟨tg, iter, ifs, 0⟩, ⟨tg1, iter1, ifs1, 0⟩] scope pos) (eLc2 src g et src1 g1 et1 ee (own.map (·.2)) vs1) := fun s => by
  refine PE.imp (pe_lc2 hc s.nd (hi s) ok hv1 (fun s' H C cl fp => hg s' H C cl fp s.kk s.nd) (fun s' H C cl fp => ht s' H C cl fp (s.blk ..)) (fun s' H C cl fp => hi1 s' H C cl fp (s.blk ..)) (fun s' H C cl fp => hg1 s' H C cl fp s.kk s.nd) (fun s' H C cl fp => ht1 s' H C cl fp (s.blk ..)) (fun s' H C cl fp => he s' H C cl fp (s.blk ..)) hs hs1) fun σ H Q h => ?_
  exact lc2_read hv h
theorem ms_setLc2 (i : Nat) {y : Str} {py : Pos} {elt tg iter tg1 iter1 : Expr} {ifs ifs1 : List Expr} {scope : Scope} {own : List (Str × Nat)} {src src1 : Env → Sto → Res Src} {g g1 : D → Env → Option Env} {vs vs1 : List Nat} {et et1 : EvB} {ee : Ev} {spos : Pos}
    (hi : MI X c W tg iter src) (ok : BlkOk X.N X.env.scope scope own) (hg : ∀ (s : Shared) (H : Hp) (C : Addr) (cl : List (Str × Addr)) (fp : List Addr), MG (X.blk s H scope (compEnvC scope cl C X.env) fp) c tg vs g)
    (ht : ∀ (s : Shared) (H : Hp) (C : Addr) (cl : List (Str × Addr)) (fp : List Addr), MTs (X.blk s H scope (compEnvC scope cl C X.env) fp) c W0 ifs et)
    (hi1 : ∀ (s : Shared) (H : Hp) (C : Addr) (cl : List (Str × Addr)) (fp : List Addr), MIW (X.blk s H scope (compEnvC scope cl C X.env) fp) c W0 tg1 iter1 src1)
    (hg1 : ∀ (s : Shared) (H : Hp) (C : Addr) (cl : List (Str × Addr)) (fp : List Addr), MG (X.blk s H scope (compEnvC scope cl C X.env) fp) c tg1 vs1 g1)
    (ht1 : ∀ (s : Shared) (H : Hp) (C : Addr) (cl : List (Str × Addr)) (fp : List Addr), MTs (X.blk s H scope (compEnvC scope cl C X.env) fp) c W0 ifs1 et1)
    (he : ∀ (s : Shared) (H : Hp) (C : Addr) (cl : List (Str × Addr)) (fp : List Addr), ME (X.blk s H scope (compEnvC scope cl C X.env) fp) c W0 elt ee)
    (hv : ∀ j ∈ vs, j ∈ own.map (·.2)) (hv1 : ∀ j ∈ vs1, j ∈ own.map (·.2)) (hy : X.N[i]? = some y := by rfl) (hyl : X.env.scope.names.lookup y = some .local := by rfl)
    (hsw : swapsWith (.ListComp elt [⟨tg, iter, ifs, 0⟩, ⟨tg1, iter1, ifs1, 0⟩] scope pos) (some (.Name y py)) spos.line X.env = pure true := by exact sw_true rfl rfl rfl (by decide +kernel))
    (hc : X.calm = true := by rfl) (hs : ∀ x, foldedSetIterable iter X.env x = pure x := by intro _; rfl) (hs1 : ∀ env x, foldedSetIterable iter1 env x = pure x := by intro _ _; rfl) :
    MS X c W (.Assign [.Name y py] (.ListComp elt [⟨tg, iter, ifs, 0⟩, ⟨tg1, iter1, ifs1, 0⟩] scope pos) spos) (sAsg i (eLc2 src g et src1 g1 et1 ee (own.map (·.2)) vs1)) := fun s => by
  refine PS.imp (ps_setLc2 hc s.nd hy hyl hsw (hi s) ok hv1 (fun s' H C cl fp => hg s' H C cl fp s.kk s.nd) (fun s' H C cl fp => ht s' H C cl fp (s.blk ..)) (fun s' H C cl fp => hi1 s' H C cl fp (s.blk ..)) (fun s' H C cl fp => hg1 s' H C cl fp s.kk s.nd) (fun s' H C cl fp => ht1 s' H C cl fp (s.blk ..)) (fun s' H C cl fp => he s' H C cl fp (s.blk ..)) hs hs1) fun D' σ H ⟨φ, ρ, S, re, rs, o⟩ => ?_
  refine lc2_read (W := W) hv (Q := fun x H1 => gName i x σ H1 D'.nx) ⟨φ, ρ, S, re, rs, flow_out re rs o fun x S' φ' H' y e s' q re' o' => ?_⟩
  exact o' φ' H' _ (.refl _ _) s' (re'.set q)
end
end MP
end
section
set_option Elab.async false
set_option linter.all false
set_option maxRecDepth 100000
set_option maxHeartbeats 400000
/-! MPI: facts of the written part that the ends look up. -/
namespace MP
open PySem PySem.Spec PyProof.Rows L2
theorem all_at {α : Type} {l : List α} {f : α → Bool} (h : l.all f = true) {x : α} (m : x ∈ l) : f x = true := List.all_eq_true.mp h x m
def excB (K : PySem.W.Frag) (C : Addr) : Bool :=
  decide (PySem.W.findIn K (.ref C) "__getattribute__" = some (some (.builtin "BaseException.__getattribute__"))) && (decide (PySem.W.findIn K (.ref C) "__getattr__" = some none) && (decide (PySem.W.subIn K (.ref C) (.type "BaseException") = some true) && (PySem.W.hasDictIn K C &&
  (decide (PySem.W.findIn K (.ref C) "__class__" = some (some (.builtin "object.__class__"))) && (decide (PySem.W.specialIn K (.builtin "object.__class__") "__get__" = some (some (.builtin "getset_descriptor.__get__"))) && (decide (PySem.W.takesIn K (.builtin "object.__class__") = some true) && decide (PySem.W.mroIn K C (.type "object") = some true)))))))
theorem excB_ok {K : PySem.W.Frag} {C : Addr} (h : excB K C = true) : ExcC K C := by
  unfold excB at h
  simp only [Bool.and_eq_true, decide_eq_true_eq] at h
  obtain ⟨h1, h2, h3, h4, h5, h6, h7, h8⟩ := h
  exact ⟨h1, h2, h3, h4, h5, h6, h7, h8⟩
def kioB (xs : List (Str × Str × Bool)) (K : PySem.W.Frag) : Bool := xs.all fun p => decide (PySem.W.kitOne K (.ref (He.ga K p.1)) (.ref (He.ga K p.2.1)) = some p.2.2)
def kibB (xs : List (Str × String × Bool)) (K : PySem.W.Frag) : Bool := xs.all fun p => decide (PySem.W.kitOne K (.ref (He.ga K p.1)) (.type p.2.1) = some p.2.2)
theorem kioB_ok {xs : List (Str × Str × Bool)} {K : PySem.W.Frag} (h : kioB xs K = true) {a b : Str} {k : Bool} (m : (a, b, k) ∈ xs) : PySem.W.kitOne K (.ref (He.ga K a)) (.ref (He.ga K b)) = some k := of_decide_eq_true (List.all_eq_true.mp h _ m)
theorem kibB_ok {xs : List (Str × String × Bool)} {K : PySem.W.Frag} (h : kibB xs K = true) {a : Str} {b : String} {k : Bool} (m : (a, b, k) ∈ xs) : PySem.W.kitOne K (.ref (He.ga K a)) (.type b) = some k := of_decide_eq_true (List.all_eq_true.mp h _ m)
end MP
end
section
set_option Elab.async false
set_option linter.all false
set_option maxRecDepth 100000
set_option maxHeartbeats 1000000
/-! MPJ: the place of an int in a list or a tuple of ints. -/
namespace MP
open PySem PySem.Spec PyProof.Rows L2
/-- one argument -/
theorem Out.bindE {c : Cz} {H : Hp} {φ : List Addr} {r : Res D} {f : D → Sto → Res D} {Q : VK} {R : List V → Hp → Prop} {E : XK} (o : Out c H φ (RepV c) (r.bind f) Q E)
    (h : ∀ x S' φ' H' y, Ext H φ H' φ' → RepS c H' φ' S' → RepV c H' φ' x y → Out c H' φ' (RepV c) (f x S') Q E → R [y] H') :
    Out c H φ (RepL c) (r.bind fun d S1 => (Res.ok [] S1 : Res (List D)).bind fun ds S2 => .ok (d :: ds) S2) R E := by
  cases r with
  | ok d S1 =>
    intro φ' H' ys e s q
    obtain ⟨y, rfl, q1⟩ := RepL.one q
    exact h d S1 φ' H' y e s q1 (Out.later o e)
  | exc n ns ds S => exact o
  | stuck => exact o.elim
section
variable {X : Cx} {c : Cz} {W : WX} {a b d o : Expr} {ea eb ed eo : Ev} {pos cpos apos : Pos} {es : List Expr} {ra : EvA} {x : Str} {p : Pos}
def tIdx (K : PySem.W.Frag) (to : TE) (te : TA) : TE := fun σ H Q => to σ H fun x H1 => ∃ q, x = .ref q ∧
  (((∃ us, SqL K H1 q us) ∧ te σ H1 fun ys H2 => ∃ (ns : List Int) (k : Int), ys = [.int k] ∧ SqL K H2 q (ns.map V.int) ∧ k ∈ ns ∧ Q (.int (ns.idxOf k : Nat)) H2) ∨
   ((∃ us, SqN K H1 q us) ∧ te σ H1 fun ys H2 => ∃ (ns : List Int) (k : Int), ys = [.int k] ∧ SqT K H2 q (ns.map V.int) ∧ k ∈ ns ∧ Q (.int (ns.idxOf k : Nat)) H2))
theorem pe_idx {to : TE} {te : TA} (ho : PE X o to) (ha : PA X [a] te)
    (hbase : attributeBase o "index" X.env (eval o X.env) = eval o X.env := by rfl)
    (hfew : ((backTo cpos (starEach [a] X.env)).all (fun x => !x.1) && (backToKw cpos (keywordEach [] X.env)).all (fun x => x.1.isSome)
      && decide ([a].length + ([] : List Keyword).length + (if ([] : List Keyword).isEmpty then 0 else 1) < 30)) = true := by rfl)
    (hline : (apos.endLine == cpos.line) = true := by rfl) (hs : starEach [a] X.env = (false, eval a X.env) :: starEach [] X.env := by rfl) :
    PE X (.Call (.Attribute o "index" apos) [a] [] cpos) (tIdx X.K to te) := ⟨fun pins s σ H Q I h => by
  refine wpAny_Call_method_late hbase hfew hline rfl (thn (ho.run pins s σ H _ I h) fun v s1 ⟨x, H1, I1, r1, q, ex, w⟩ => ?_)
  subst ex
  cases r1
  rcases w with ⟨⟨us, hq⟩, w⟩ | ⟨⟨us, hq⟩, w⟩
  · obtain ⟨its, r', pl, hz⟩ := I1.list hq
    obtain ⟨ob, n, ho1, hc1, hd1, hd2⟩ := id pl
    refine ⟨"list", "list.index", PySem.F.plainAttrs_list, PySem.F.slot_list_index, PySem.F.type_list_index, pl.isList.typeIs, fun a' e => by cases e; exact ⟨ob, ho1, hd1⟩, ?_⟩
    have hA := ha.run cpos pins s1 σ H1 _ I1 w
    rw [hs] at hA ⊢
    refine Calls.callWith_builtin (by rfl) (Calls.evalArgs_plain (thn hA fun u s2 ⟨ys, H2, I2, r2, ns, k, ey, h2, hk, fin⟩ => ?_))
    subst ey
    obtain ⟨u1, rfl, t, rfl⟩ := vals1 r2
    obtain ⟨its2, rv, pl2, hz2⟩ := I2.list h2
    exact PySem.SeqAt.list_index_ints pl2.isList (ints_of_vals rv) (by simpa using hz2) hk ⟨.int (ns.idxOf k : Nat), H2, I2.tok _, ⟨_, rfl⟩, fin⟩
  · obtain ⟨ob, ho1, hd1⟩ := hq.bare I1
    obtain ⟨its, r', pt, hz⟩ := I1.tuple hq.sq
    have pt' : s1.heap.IsTuple q its.toArray := pt
    have ty : s1.TypeIs (.ref q) "tuple" := by
      obtain ⟨o2, g1, g2, _⟩ := pt'
      exact ⟨o2, g1, g2⟩
    refine ⟨"tuple", "tuple.index", PySem.F.plainAttrs_tuple, PySem.F.slot_tuple_index, PySem.F.type_tuple_index, ty, fun a' e => by cases e; exact ⟨ob, ho1, hd1⟩, ?_⟩
    have hA := ha.run cpos pins s1 σ H1 _ I1 w
    rw [hs] at hA ⊢
    refine Calls.callWith_builtin (by rfl) (Calls.evalArgs_plain (thn hA fun u s2 ⟨ys, H2, I2, r2, ns, k, ey, h2, hk, fin⟩ => ?_))
    subst ey
    obtain ⟨u1, rfl, t, rfl⟩ := vals1 r2
    obtain ⟨its2, rv, pt2, hz2⟩ := I2.tuple h2
    exact PySem.SeqAt.tuple_index_ints (show s2.heap.IsTuple q its2.toArray from pt2) (ints_of_vals rv) hk ⟨.int (ns.idxOf k : Nat), H2, I2.tok _, ⟨_, rfl⟩, fin⟩⟩
def dIdx : Op2 := fun d e S => match d, e with
  | .lst l, .int k => (S[l]?).bind fun xs => (intsOf xs).bind fun ns => if k ∈ ns then some (.int (ns.idxOf k : Nat), S) else none
  | .tup xs, .int k => (intsOf xs).bind fun ns => if k ∈ ns then some (.int (ns.idxOf k : Nat), S) else none
  | _, _ => none
def eIdx (eo ea : Ev) : Ev := fun ρ S => (eo ρ S).bind fun d S1 => match d with
  | .lst l => (ea ρ S1).bind fun y S2 => lift (dIdx (.lst l) y S2)
  | .tup xs => (ea ρ S1).bind fun y S2 => lift (dIdx (.tup xs) y S2)
  | _ => .stuck
theorem me_idx (ho : ME X c W o eo) (ha : ME X c W a ea)
    (hbase : attributeBase o "index" X.env (eval o X.env) = eval o X.env := by rfl)
    (hfew : ((backTo cpos (starEach [a] X.env)).all (fun x => !x.1) && (backToKw cpos (keywordEach [] X.env)).all (fun x => x.1.isSome)
      && decide ([a].length + ([] : List Keyword).length + (if ([] : List Keyword).isEmpty then 0 else 1) < 30)) = true := by rfl)
    (hline : (apos.endLine == cpos.line) = true := by rfl) (hs : starEach [a] X.env = (false, eval a X.env) :: starEach [] X.env := by rfl) :
    ME X c W (.Call (.Attribute o "index" apos) [a] [] cpos) (eIdx eo ea) := fun s => by
  refine PE.imp (pe_idx (ho s) (ma_cons ha ma_nil hs s) hbase hfew hline hs) fun σ H Q ⟨φ, ρ, S, re, rs, o⟩ => ?_
  refine ⟨φ, ρ, S, re, rs, Out.bind o fun d S1 φ1 H1 v e1 s1 r1 o1 => ?_⟩
  cases d with
  | lst l =>
    unfold RepV at r1
    obtain ⟨q, rfl, h1⟩ := r1
    obtain ⟨vs, h2⟩ := s1.isl (List.mem_of_getElem? h1)
    refine ⟨q, rfl, .inl ⟨⟨_, SqL.of h2⟩, φ1, ρ, S1, re.ext rs e1, s1, ?_⟩⟩
    unfold aCons aNil
    refine Out.bindE o1 fun y S2 φ2 H2 u e2 s2 r2 o2 => ?_
    replace o2 := OutO.of o2
    cases y <;> first
      | exact False.elim o2
      | skip
    rename_i k
    unfold RepV at r2
    subst r2
    have o2 : OutO c H2 φ2 (RepV c) ((S2[l]?).bind fun xs => (intsOf xs).bind fun ns => if k ∈ ns then some (D.int (ns.idxOf k : Nat), S2) else none) Q := o2
    cases q0 : S2[l]? with
    | none => rw [q0] at o2; exact o2.elim
    | some xs =>
      rw [q0, Option.bind_some] at o2
      obtain ⟨q', us, g1, g2, g3⟩ := s2.at_ l xs q0
      rw [pre_get e2.pre h1] at g1
      cases g1
      cases q1 : intsOf xs with
      | none => rw [q1] at o2; exact o2.elim
      | some ns =>
        rw [q1, Option.bind_some] at o2
        by_cases hk : k ∈ ns
        · rw [if_pos hk] at o2
          exact ⟨ns, k, rfl, by rw [← ints_rel g3 q1]; exact SqL.of g2, hk, o2 φ2 H2 _ (.refl _ _) s2 rep_int⟩
        · rw [if_neg hk] at o2
          exact o2.elim
  | tup xs =>
    unfold RepV at r1
    obtain ⟨q, us, rfl, h1, h2⟩ := r1
    refine ⟨q, rfl, .inr ⟨⟨_, by rw [← s.kk]; exact h1⟩, φ1, ρ, S1, re.ext rs e1, s1, ?_⟩⟩
    unfold aCons aNil
    refine Out.bindE o1 fun y S2 φ2 H2 u e2 s2 r2 o2 => ?_
    replace o2 := OutO.of o2
    cases y <;> first
      | exact False.elim o2
      | skip
    rename_i k
    unfold RepV at r2
    subst r2
    have o2 : OutO c H2 φ2 (RepV c) ((intsOf xs).bind fun ns => if k ∈ ns then some (D.int (ns.idxOf k : Nat), S2) else none) Q := o2
    cases q1 : intsOf xs with
    | none => rw [q1] at o2; exact o2.elim
    | some ns =>
      rw [q1, Option.bind_some] at o2
      by_cases hk : k ∈ ns
      · rw [if_pos hk] at o2
        exact ⟨ns, k, rfl, by rw [← s.kk, ← ints_rel h2 q1]; exact (SqN.ext s1.ls e2 h1).sq, hk, o2 φ2 H2 _ (.refl _ _) s2 rep_int⟩
      · rw [if_neg hk] at o2
        exact o2.elim
  | _ => exact o1.elim
end
end MP
end
section
set_option Elab.async false
set_option linter.all false
set_option maxRecDepth 100000
set_option maxHeartbeats 400000
/-! PP: the evaluators reckoned with: rewriting rules for the pure laws. -/
namespace MP
open PySem PySem.Spec PyProof.Rows L2
@[simp] theorem dAdd_int {i j : Int} {S : Sto} : dAdd (.int i) (.int j) S = some (.int (i + j), S) := rfl
theorem dMul_int {i j : Int} {S : Sto} (h : CMulA i j) : dMul (.int i) (.int j) S = some (.int (i * j), S) := by
  unfold dMul
  simp [h]
theorem dTup_ok {ds : List D} {S : Sto} (h : ds.length ≤ 1000 := by decide) : dTup ds S = some (.tup ds, S) := by
  unfold dTup
  simp [h]
theorem dLst_ok {ds : List D} {S : Sto} (h : ds.length ≤ 1000) : dLst ds S = some (.lst S.length, S ++ [ds]) := by
  unfold dLst
  simp [h]
theorem toPy_int {S : Sto} {n : Nat} {i : Int} : toPy S (n + 1) (.int i) = some (.int i) := rfl
theorem deep_eq : deep = 38 + 1 + 1 := rfl
@[simp] theorem dEq_int {i j : Int} {S : Sto} : dEq (.int i) (.int j) S = some (.bl (decide (i = j)), S) := by
  have e : dEq (.int i) (.int j) S = some (.bl (PyData.eqv (.int i) (.int j)), S) := rfl
  rw [e]
  simp [PyData.eqv]
  by_cases h : i = j <;> simp [h]
@[simp] theorem dNe_int {i j : Int} {S : Sto} : dNe (.int i) (.int j) S = some (.bl (!decide (i = j)), S) := by
  have e : dNe (.int i) (.int j) S = some (.bl (!PyData.eqv (.int i) (.int j)), S) := rfl
  rw [e]
  simp [PyData.eqv]
  by_cases h : i = j <;> simp [h]
theorem dNe_bl {i j : Bool} {S : Sto} : dNe (.bl i) (.bl j) S = some (.bl (!(i == j)), S) := by
  have e : dNe (.bl i) (.bl j) S = some (.bl (!PyData.eqv (.bool i) (.bool j)), S) := rfl
  rw [e]
  simp [PyData.eqv]
def dq (q : Int × Int) : D := .tup [.int q.1, .int q.2]
@[simp] theorem dEq_dq {q r : Int × Int} {S : Sto} : dEq (dq q) (dq r) S = some (.bl (decide (q = r)), S) := by
  have e : dEq (dq q) (dq r) S = some (.bl (PyData.eqv (.tuple [.int q.1, .int q.2]) (.tuple [.int r.1, .int r.2])), S) := rfl
  rw [e]
  obtain ⟨a, b⟩ := q
  obtain ⟨c, d⟩ := r
  by_cases h1 : a = c <;> by_cases h2 : b = d <;> simp [PyData.eqv, PyData.eqvAll, h1, h2]
/-- a text that is laid out -/
def okS (x : Str) : Bool := PyData.strOk x
theorem dEq_str {x y : Str} {S : Sto} (hx : okS x = true) (hy : okS y = true) : dEq (.str x) (.str y) S = some (.bl (x == y), S) := by
  unfold okS at hx hy
  have hx' : toPy S deep (.str x) = some (.str x) := by
    show (if PyData.strOk x = true then some (PyData.str x) else none) = _
    rw [if_pos hx]
  have hy' : toPy S deep (.str y) = some (.str y) := by
    show (if PyData.strOk y = true then some (PyData.str y) else none) = _
    rw [if_pos hy]
  unfold dEq
  rw [hx', hy']
  simp [PyData.eqv]
theorem dNe_str {x y : Str} {S : Sto} (hx : okS x = true) (hy : okS y = true) : dNe (.str x) (.str y) S = some (.bl (!(x == y)), S) := by
  unfold okS at hx hy
  have hx' : toPy S deep (.str x) = some (.str x) := by
    show (if PyData.strOk x = true then some (PyData.str x) else none) = _
    rw [if_pos hx]
  have hy' : toPy S deep (.str y) = some (.str y) := by
    show (if PyData.strOk y = true then some (PyData.str y) else none) = _
    rw [if_pos hy]
  unfold dNe
  rw [hx', hy']
  simp [PyData.eqv]
theorem dNe_of {d e : D} {p q : PyData} {S : Sto} (h1 : toPy S deep d = some p) (h2 : toPy S deep e = some q) : dNe d e S = some (.bl (!PyData.eqv p q), S) := by
  unfold dNe
  rw [h1, h2]
theorem toPy_q {S : Sto} {q : Int × Int} : toPy S 39 (dq q) = some (.tuple [.int q.1, .int q.2]) := rfl
/-! isinstance -/
section
variable {S : Sto} {i : Int} {b : Bool} {x : Str} {xs : List D} {l : Nat}
theorem k_ii : kitB "int" "int" = some true := by decide +kernel
theorem k_ib : kitB "int" "bool" = some false := by decide +kernel
theorem k_it : kitB "int" "tuple" = some false := by decide +kernel
theorem k_is : kitB "int" "str" = some false := by decide +kernel
theorem k_bi : kitB "bool" "int" = some true := by decide +kernel
theorem k_bb : kitB "bool" "bool" = some true := by decide +kernel
theorem k_bt : kitB "bool" "tuple" = some false := by decide +kernel
theorem k_si : kitB "str" "int" = some false := by decide +kernel
theorem k_sb : kitB "str" "bool" = some false := by decide +kernel
theorem k_st : kitB "str" "tuple" = some false := by decide +kernel
theorem k_ss : kitB "str" "str" = some true := by decide +kernel
theorem k_tt : kitB "tuple" "tuple" = some true := by decide +kernel
theorem k_ti : kitB "tuple" "int" = some false := by decide +kernel
theorem k_lt : kitB "list" "tuple" = some false := by decide +kernel
theorem k_nt : kitB "NoneType" "tuple" = some false := by decide +kernel
theorem k_ni : kitB "NoneType" "int" = some false := by decide +kernel
@[simp] theorem isi_ii : dIsi "int" (.int i) S = some (.bl true, S) := by simp [dIsi, tyName, k_ii]
@[simp] theorem isi_ib : dIsi "bool" (.int i) S = some (.bl false, S) := by simp [dIsi, tyName, k_ib]
@[simp] theorem isi_it : dIsi "tuple" (.int i) S = some (.bl false, S) := by simp [dIsi, tyName, k_it]
@[simp] theorem isi_is : dIsi "str" (.int i) S = some (.bl false, S) := by simp [dIsi, tyName, k_is]
@[simp] theorem isi_bi : dIsi "int" (.bl b) S = some (.bl true, S) := by simp [dIsi, tyName, k_bi]
@[simp] theorem isi_bb : dIsi "bool" (.bl b) S = some (.bl true, S) := by simp [dIsi, tyName, k_bb]
@[simp] theorem isi_bt : dIsi "tuple" (.bl b) S = some (.bl false, S) := by simp [dIsi, tyName, k_bt]
@[simp] theorem isi_si : dIsi "int" (.str x) S = some (.bl false, S) := by simp [dIsi, tyName, k_si]
@[simp] theorem isi_sb : dIsi "bool" (.str x) S = some (.bl false, S) := by simp [dIsi, tyName, k_sb]
@[simp] theorem isi_st : dIsi "tuple" (.str x) S = some (.bl false, S) := by simp [dIsi, tyName, k_st]
@[simp] theorem isi_ss : dIsi "str" (.str x) S = some (.bl true, S) := by simp [dIsi, tyName, k_ss]
@[simp] theorem isi_tt : dIsi "tuple" (.tup xs) S = some (.bl true, S) := by simp [dIsi, tyName, k_tt]
@[simp] theorem isi_ti : dIsi "int" (.tup xs) S = some (.bl false, S) := by simp [dIsi, tyName, k_ti]
@[simp] theorem isi_lt : dIsi "tuple" (.lst l) S = some (.bl false, S) := by simp [dIsi, tyName, k_lt]
@[simp] theorem isi_nt : dIsi "tuple" .non S = some (.bl false, S) := by simp [dIsi, tyName, k_nt]
@[simp] theorem isi_ni : dIsi "int" .non S = some (.bl false, S) := by simp [dIsi, tyName, k_ni]
@[simp] theorem len_tup : dLen [.tup xs] S = some (.int xs.length, S) := rfl
theorem len_lst (h : S[l]? = some xs) : dLen [.lst l] S = some (.int xs.length, S) := by
  unfold dLen itemsOf
  simp [h]
theorem tup_lst (h : S[l]? = some xs) : dTupOf [.lst l] S = some (.tup xs, S) := by
  unfold dTupOf itemsOf
  simp [h]
theorem list_lst (h : S[l]? = some xs) : dListOf [.lst l] S = some (.lst S.length, S ++ [xs]) := by
  unfold dListOf itemsOf
  simp [h]
@[simp] theorem list_frl : dListOf [.frl xs] S = some (.lst S.length, S ++ [xs]) := rfl
theorem ixN_nat {n k : Nat} (h : k < n) : ixN n (k : Int) = some k := by
  unfold ixN
  rw [if_pos (by omega), if_pos (by omega)]
  simp
theorem atI_nat {α : Type} {xs : List α} {k : Nat} {v : α} (h : xs[k]? = some v) : atI xs (k : Int) = some v := by
  unfold atI
  rw [ixN_nat (List.getElem?_eq_some_iff.mp h).1]
  exact h
theorem ix_tup {k : Nat} {v : D} (h : xs[k]? = some v) : dIx (.tup xs) (.int k) S = some (v, S) := by
  unfold dIx
  simp [atI_nat h]
theorem ix_lst {k : Nat} {v : D} (hl : S[l]? = some xs) (h : xs[k]? = some v) : dIx (.lst l) (.int k) S = some (v, S) := by
  unfold dIx
  simp [hl, atI_nat h]
@[simp] theorem ix_tup0 {v : D} {r : List D} : dIx (.tup (v :: r)) (.int 0) S = some (v, S) := ix_tup (k := 0) rfl
@[simp] theorem ix_tup1 {u v : D} {r : List D} : dIx (.tup (u :: v :: r)) (.int 1) S = some (v, S) := ix_tup (k := 1) rfl
@[simp] theorem ix_dq0 {q : Int × Int} : dIx (dq q) (.int 0) S = some (.int q.1, S) := ix_tup (k := 0) rfl
@[simp] theorem ix_dq1 {q : Int × Int} : dIx (dq q) (.int 1) S = some (.int q.2, S) := ix_tup (k := 1) rfl
@[simp] theorem isi_dq {q : Int × Int} : dIsi "tuple" (dq q) S = some (.bl true, S) := isi_tt
theorem set_lst {k : Nat} {v : D} (hl : S[l]? = some xs) (h : k < xs.length) : gSet (.lst l) (.int k) v S = some (S.set l (xs.set k v)) := by
  unfold gSet
  simp [hl, ixN_nat h]
end
/-! loops -/
theorem seq_next {a b : Es} {ρ ρ' : Env} {S S' : Sto} (h : a ρ S = .next ρ' S') : sSeq a b ρ S = b ρ' S' := by
  unfold sSeq
  rw [h]
  rfl
theorem seq_ret {a b : Es} {ρ : Env} {S S' : Sto} {d : D} (h : a ρ S = .ret d S') : sSeq a b ρ S = .ret d S' := by
  unfold sSeq
  rw [h]
  rfl
theorem seq_exc {a b : Es} {ρ ρ' : Env} {S S' : Sto} {n : Str} {ns : List Str} {ds : List D} (h : a ρ S = .exc n ns ds ρ' S') : sSeq a b ρ S = .exc n ns ds ρ' S' := by
  unfold sSeq
  rw [h]
  rfl
section
variable {st : Sto → Prop} {b : D → Env → Option Env} {body : Es}
theorem for_nil {ρ : Env} {S : Sto} (h : st S) : forLoop st b body [] ρ S = .next ρ S := by
  unfold forLoop
  simp [h]
theorem for_cons {x : D} {xs : List D} {ρ ρ1 ρ2 : Env} {S S2 : Sto} (h : st S) (hb : b x ρ = some ρ1) (hy : body ρ1 S = .next ρ2 S2) : forLoop st b body (x :: xs) ρ S = forLoop st b body xs ρ2 S2 := by
  rw [forLoop]
  simp [h, hb, hy]
theorem for_ret {x : D} {xs : List D} {ρ ρ1 : Env} {S S2 : Sto} {d : D} (h : st S) (hb : b x ρ = some ρ1) (hy : body ρ1 S = .ret d S2) : forLoop st b body (x :: xs) ρ S = .ret d S2 := by
  rw [forLoop]
  simp [h, hb, hy]
/-- a loop by an invariant over the items that are left -/
theorem for_inv (I : List D → Env → Sto → Prop) (hst : ∀ xs ρ S, I xs ρ S → st S)
    (step : ∀ x xs ρ S, I (x :: xs) ρ S → ∃ ρ1 ρ2 S2, b x ρ = some ρ1 ∧ body ρ1 S = .next ρ2 S2 ∧ I xs ρ2 S2) : ∀ xs ρ S, I xs ρ S → ∃ ρ' S', forLoop st b body xs ρ S = .next ρ' S' ∧ I [] ρ' S'
  | [], ρ, S, h => ⟨ρ, S, for_nil (hst _ _ _ h), h⟩
  | x :: xs, ρ, S, h => by
    obtain ⟨ρ1, ρ2, S2, h1, h2, h3⟩ := step x xs ρ S h
    obtain ⟨ρ', S', h4, h5⟩ := for_inv I hst step xs ρ2 S2 h3
    exact ⟨ρ', S', by rw [for_cons (hst _ _ _ h) h1 h2]; exact h4, h5⟩
theorem while_done {t : EvB} {n : Nat} {ρ : Env} {S S1 : Sto} (h : t ρ S = .ok false S1) : whileLoop t body (n + 1) ρ S = .next ρ S1 := by
  unfold whileLoop
  simp [h]
theorem while_step {t : EvB} {n : Nat} {ρ ρ2 : Env} {S S1 S2 : Sto} (h : t ρ S = .ok true S1) (hb : body ρ S1 = .next ρ2 S2) : whileLoop t body (n + 1) ρ S = whileLoop t body n ρ2 S2 := by
  rw [whileLoop]
  simp [h, hb]
variable {t : EvB} {e : Ev} {ρ : Env}
theorem lc_nil {acc : List D} {S : Sto} (h : st S) : lcLoop st b t e ρ [] acc S = .ok acc S := by
  unfold lcLoop
  simp [h]
theorem lc_cons {x : D} {xs acc : List D} {ρ1 : Env} {S S1 S2 : Sto} {d : D} (h : st S) (hb : b x ρ = some ρ1) (ht : t ρ1 S = .ok true S1) (he : e ρ1 S1 = .ok d S2) (hl : acc.length < 1000000) :
    lcLoop st b t e ρ (x :: xs) acc S = lcLoop st b t e ρ xs (acc ++ [d]) S2 := by
  rw [lcLoop]
  simp [h, hb, ht, he, hl]
/-- a comprehension that leaves the store -/
theorem lc_map (f : D → D) {S : Sto} (hst : st S) : ∀ (xs acc : List D), acc.length + xs.length ≤ 1000000 → (∀ x ∈ xs, ∃ ρ1, b x ρ = some ρ1 ∧ t ρ1 S = .ok true S ∧ e ρ1 S = .ok (f x) S) → lcLoop st b t e ρ xs acc S = .ok (acc ++ xs.map f) S
  | [], acc, _, _ => by rw [lc_nil hst]; simp
  | x :: xs, acc, hl, h => by
    obtain ⟨ρ1, h1, h2, h3⟩ := h x (by simp)
    simp only [List.length_cons] at hl
    rw [lc_cons hst h1 h2 h3 (by omega), lc_map f hst xs (acc ++ [f x]) (by simp; omega) fun y hy => h y (by simp [hy])]
    simp
end
theorem fuel_big {n : Nat} (h : n < 2 ^ 4000000) : n < fuel := by
  unfold fuel
  exact h
@[simp] theorem tTrue_ok {ρ : Env} {S : Sto} : tTrue ρ S = .ok true S := rfl
end MP
end
section
set_option Elab.async false
set_option linter.all false
set_option maxRecDepth 100000
set_option maxHeartbeats 1000000
/-! MPK: steps of the evaluators, one by one. -/
namespace MP
open PySem PySem.Spec PyProof.Rows L2
def Bt (x : Int) (k : Nat) : Prop := x.natAbs < 2 ^ k
theorem Bt.mono {x : Int} {a b : Nat} (h : Bt x a) (k : a ≤ b) : Bt x b := Nat.lt_of_lt_of_le h (Nat.pow_le_pow_right (by decide) k)
theorem Bt.mul {x y : Int} {a b : Nat} (h : Bt x a) (k : Bt y b) : Bt (x * y) (a + b) := by
  unfold Bt at *
  rw [Int.natAbs_mul, Nat.pow_add]
  exact Nat.mul_lt_mul'' h k
theorem Bt.add {x y : Int} {a : Nat} (h : Bt x a) (k : Bt y a) : Bt (x + y) (a + 1) := by
  unfold Bt at *
  rw [Nat.pow_succ]
  have := Int.natAbs_add_le x y
  omega
theorem Bt.neg {x : Int} {a : Nat} (h : Bt x a) : Bt (-x) a := by
  unfold Bt at *
  rw [Int.natAbs_neg]
  exact h
/-- log2 below -/
theorem log_lt {n k : Nat} (h : n < 2 ^ k) (h0 : 0 < k) : n.log2 < k := PySem.Flt.log2_lt_of h0 h
theorem log_le {n k : Nat} (h : n < 2 ^ k) : n.log2 ≤ k := by
  by_cases hk : k = 0
  · subst hk
    have : n = 0 := by simpa using h
    subst this
    decide
  · exact Nat.le_of_lt (log_lt h (by omega))
theorem mulA {x y : Int} {a b : Nat} (h : Bt x a) (k : Bt y b) (s : a + b < 100000000) : CMulA x y := by
  have h1 := log_le h
  have h2 := log_le k
  unfold CMulA
  omega
theorem divA {x y : Int} {b : Nat} (h : y ≠ 0) (k : Bt y b) (s : b < 9000) : CDivA x y := by
  have h2 := log_le k
  exact ⟨h, by omega⟩
theorem boolsOf_map (f : D → Bool) : ∀ ds : List D, boolsOf (ds.map fun d => .bl (f d)) = some (ds.map f)
  | [] => rfl
  | d :: ds => by
    rw [List.map_cons, boolsOf, boolsOf_map f ds]
    rfl
theorem intsOf_map {α : Type} (f : α → Int) : ∀ ds : List α, intsOf (ds.map fun d => .int (f d)) = some (ds.map f)
  | [] => rfl
  | d :: ds => by
    rw [List.map_cons, intsOf, intsOf_map f ds]
    rfl
theorem for_idx {st : Sto → Prop} {b : D → Env → Option Env} {body : Es} (I : Nat → Env → Sto → Prop) (hst : ∀ i ρ S, I i ρ S → st S) : ∀ (ys : List D) (xs : List D) (i : Nat) (ρ : Env) (S : Sto), xs.drop i = ys → i ≤ xs.length →
    (∀ i x ρ S, xs[i]? = some x → I i ρ S → ∃ ρ1 ρ2 S2, b x ρ = some ρ1 ∧ body ρ1 S = .next ρ2 S2 ∧ I (i + 1) ρ2 S2) → I i ρ S → ∃ ρ' S', forLoop st b body ys ρ S = .next ρ' S' ∧ I xs.length ρ' S'
  | [], xs, i, ρ, S, hd, hi, step, h => by
    have : xs.length ≤ i := List.drop_eq_nil_iff.mp hd
    have e : i = xs.length := by omega
    subst e
    exact ⟨ρ, S, for_nil (hst _ _ _ h), h⟩
  | y :: ys, xs, i, ρ, S, hd, hi, step, h => by
    have hlt : i < xs.length := by
      rcases Nat.lt_or_ge i xs.length with q | q
      · exact q
      · rw [List.drop_eq_nil_iff.mpr q] at hd
        cases hd
    have hx : xs[i]? = some y := by
      have := congrArg (fun l => l[0]?) hd
      simpa [List.getElem?_drop] using this
    obtain ⟨ρ1, ρ2, S2, h1, h2, h3⟩ := step i y ρ S hx h
    have hd2 : xs.drop (i + 1) = ys := by
      rw [← List.drop_drop, hd]
      rfl
    obtain ⟨ρ', S', h4, h5⟩ := for_idx I hst ys xs (i + 1) ρ2 S2 hd2 (by omega) step h3
    exact ⟨ρ', S', by rw [for_cons (hst _ _ _ h) h1 h2]; exact h4, h5⟩
theorem for_all {st : Sto → Prop} {b : D → Env → Option Env} {body : Es} (I : Nat → Env → Sto → Prop) (hst : ∀ i ρ S, I i ρ S → st S) (xs : List D) (ρ : Env) (S : Sto)
    (step : ∀ i x ρ S, xs[i]? = some x → I i ρ S → ∃ ρ1 ρ2 S2, b x ρ = some ρ1 ∧ body ρ1 S = .next ρ2 S2 ∧ I (i + 1) ρ2 S2) (h : I 0 ρ S) : ∃ ρ' S', forLoop st b body xs ρ S = .next ρ' S' ∧ I xs.length ρ' S' :=
  for_idx I hst xs xs 0 ρ S rfl (by omega) step h
theorem rng_ok {n : Nat} (h : n ≤ 1000000) {S : Sto} : rng1 [.int (n : Int)] S = .ok ⟨rngL 0 n, fun _ => True⟩ S := by
  unfold rng1
  have : (n : Int) < 2 ^ 62 ∧ -(2 ^ 62) ≤ (n : Int) := by omega
  show (if (n : Int) < 2 ^ 62 ∧ -(2 ^ 62) ≤ (n : Int) then _ else _) = _
  rw [if_pos this]
  simp
theorem rng_at {n i : Nat} {x : D} (h : (rngL 0 n)[i]? = some x) : i < n ∧ x = .int (i : Int) := by
  obtain ⟨a, b⟩ := rngL_get h
  exact ⟨a, by rw [b, Int.zero_add]⟩
theorem for_rng {a : EvA} {ρ : Env} {S : Sto} {n : Nat} {b : D → Env → Option Env} {body : Es} {F : Flow} (ha : a ρ S = .ok [.int (n : Int)] S) (hn : n ≤ 1000000) (h : forLoop (fun _ => True) b body (rngL 0 n) ρ S = F) : sFor (iRange rng1 a) b body ρ S = F := by
  unfold sFor iRange
  rw [ha, Res.bind_ok, rng_ok hn, ofRes_ok]
  exact h
theorem for_lst {e : Ev} {ρ : Env} {S S' : Sto} {l : Nat} {xs : List D} {b : D → Env → Option Env} {body : Es} {F : Flow} (he : e ρ S = .ok (.lst l) S') (hl : S'[l]? = some xs) (h : forLoop (fun S' => S'[l]? = some xs) b body xs ρ S' = F) : sFor (iSeq e) b body ρ S = F := by
  unfold sFor iSeq srcOf
  rw [he, Res.bind_ok]
  simp only [hl, Option.map_some, ofRes_ok]
  exact h
theorem take_next {α : Type} {z : List α} {i : Nat} {q : α} (h : z[i]? = some q) : z.take (i + 1) = z.take i ++ [q] := by
  rw [List.take_add_one, h]
  rfl
theorem at_lt {α : Type} {l : List α} {i : Nat} (h : i < l.length) : ∃ p, l[i]? = some p := ⟨_, List.getElem?_eq_getElem h⟩
theorem pow10 (k : Nat) (hk : k ≤ 1000) {S : Sto} : dPow (.int 10) (.int (k : Int)) S = some (.int (10 ^ k), S) := by
  have h : CPow 10 (k : Int) := by
    refine ⟨by omega, by omega, by decide⟩
  unfold dPow dI
  simp [h]
theorem fmod_range {a m : Int} (h : 0 < m) : 0 ≤ a.fmod m ∧ a.fmod m < m := by
  rw [Int.fmod_eq_emod_of_nonneg _ (by omega)]
  exact ⟨Int.emod_nonneg _ (by omega), Int.emod_lt_of_pos _ h⟩
theorem bt_of {x : Int} {k : Nat} {m : Int} (h0 : 0 ≤ x) (h : x < m) (hm : m.natAbs ≤ 2 ^ k) : Bt x k := by
  unfold Bt
  omega
theorem int_fmod {r : Int} {m : Nat} (hm : 0 < m) : ∃ k : Nat, k < m ∧ r.fmod (m : Int) = (k : Int) := by
  obtain ⟨a, b⟩ := fmod_range (a := r) (m := (m : Int)) (by omega)
  exact ⟨(r.fmod m).toNat, by omega, by omega⟩
theorem if_t {t : EvB} {a b : Es} {ρ : Env} {S S' : Sto} (h : t ρ S = .ok true S') : sIf t a b ρ S = a ρ S' := by
  unfold sIf
  rw [h]
  rfl
theorem if_f {t : EvB} {a b : Es} {ρ : Env} {S S' : Sto} (h : t ρ S = .ok false S') : sIf t a b ρ S = b ρ S' := by
  unfold sIf
  rw [h]
  rfl
theorem ret_asg {e : Ev} {ρ : Env} {S S' : Sto} {d : D} {i : Nat} (h : e ρ S = .ok d S') : sAsg i e ρ S = .next (ρ.set i (some d)) S' := by
  unfold sAsg
  rw [h]
  rfl
theorem ret_ret {e : Ev} {ρ : Env} {S S' : Sto} {d : D} (h : e ρ S = .ok d S') : sRet e ρ S = .ret d S' := by
  unfold sRet
  rw [h]
  rfl
theorem b_ok {g : Op2} {a b : Ev} {ρ : Env} {S S1 S2 S3 : Sto} {x y z : D} (h1 : a ρ S = .ok x S1) (h2 : b ρ S1 = .ok y S2) (h3 : g x y S2 = some (z, S3)) : eB g a b ρ S = .ok z S3 := by
  unfold eB
  rw [h1, Res.bind_ok, h2, Res.bind_ok, h3, lift_some]
theorem call1 {F : List D → Sto → Res D} {a : Ev} {ρ : Env} {S S1 : Sto} {x : D} (h1 : a ρ S = .ok x S1) : eCall 1 F (aCons a aNil) ρ S = F [x] S1 := by
  simp [eCall, aCons, aNil, h1]
theorem call2 {F : List D → Sto → Res D} {a b : Ev} {ρ : Env} {S S1 S2 : Sto} {x y : D} (h1 : a ρ S = .ok x S1) (h2 : b ρ S1 = .ok y S2) : eCall 2 F (aCons a (aCons b aNil)) ρ S = F [x, y] S2 := by
  simp [eCall, aCons, aNil, h1, h2]
theorem call3 {F : List D → Sto → Res D} {a b c : Ev} {ρ : Env} {S S1 S2 S3 : Sto} {x y z : D} (h1 : a ρ S = .ok x S1) (h2 : b ρ S1 = .ok y S2) (h3 : c ρ S2 = .ok z S3) : eCall 3 F (aCons a (aCons b (aCons c aNil))) ρ S = F [x, y, z] S3 := by
  simp [eCall, aCons, aNil, h1, h2, h3]
theorem call4 {F : List D → Sto → Res D} {a b c d : Ev} {ρ : Env} {S S1 S2 S3 S4 : Sto} {x y z w : D} (h1 : a ρ S = .ok x S1) (h2 : b ρ S1 = .ok y S2) (h3 : c ρ S2 = .ok z S3) (h4 : d ρ S3 = .ok w S4) : eCall 4 F (aCons a (aCons b (aCons c (aCons d aNil)))) ρ S = F [x, y, z, w] S4 := by
  simp [eCall, aCons, aNil, h1, h2, h3, h4]
theorem var_ok {i : Nat} {ρ : Env} {S : Sto} {d : D} (h : ρ[i]? = some (some d)) : eVar i ρ S = .ok d S := by
  unfold eVar
  rw [h]
theorem c_ok {ρ : Env} {S : Sto} {d : D} : eC d ρ S = .ok d S := rfl
theorem pw_ok {k : Nat} {X : Int} {ρ : Env} {S : Sto} (hk : k ≤ 1000) (hX : X = 10 ^ k) : eB dPow (eC (.int 10)) (eC (.int (k : Int))) ρ S = .ok (.int X) S := by
  rw [hX]
  exact b_ok c_ok c_ok (pow10 k hk)
theorem pwa_ok {k : Nat} {X y : Int} {ρ : Env} {S : Sto} (hk : k ≤ 1000) (hX : X = 10 ^ k) : eB dAdd (eB dPow (eC (.int 10)) (eC (.int (k : Int)))) (eC (.int y)) ρ S = .ok (.int (X + y)) S :=
  b_ok (pw_ok hk hX) c_ok rfl
theorem sub_ok {a b : Ev} {ρ : Env} {S S1 S2 : Sto} {x y : Int} (h1 : a ρ S = .ok (.int x) S1) (h2 : b ρ S1 = .ok (.int y) S2) : eB dSub a b ρ S = .ok (.int (x - y)) S2 := b_ok h1 h2 rfl
theorem add_ok {a b : Ev} {ρ : Env} {S S1 S2 : Sto} {x y : Int} (h1 : a ρ S = .ok (.int x) S1) (h2 : b ρ S1 = .ok (.int y) S2) : eB dAdd a b ρ S = .ok (.int (x + y)) S2 := b_ok h1 h2 rfl
theorem mul_ok {a b : Ev} {ρ : Env} {S S1 S2 : Sto} {x y : Int} (c : CMulA x y) (h1 : a ρ S = .ok (.int x) S1) (h2 : b ρ S1 = .ok (.int y) S2) : eB dMul a b ρ S = .ok (.int (x * y)) S2 := b_ok h1 h2 (dMul_int c)
theorem bt_nat {r m k : Nat} (h : r < m) (hk : m ≤ 2 ^ k) : Bt (r : Int) k := by
  unfold Bt
  simp only [Int.natAbs_natCast]
  omega
theorem bt10 (k : Nat) (a : Nat) (h : 10 ^ k < 2 ^ a) : Bt ((10 : Int) ^ k) a := by
  unfold Bt
  rw [Int.natAbs_pow]
  exact h
theorem if_s {t : EvB} {a : Es} {ρ : Env} {S S' : Sto} (h : t ρ S = .ok false S') : sIf t a sSkip ρ S = .next ρ S' := by
  rw [if_f h]
  rfl
theorem test_ok {e : Ev} {ρ : Env} {S S' : Sto} {b : Bool} (h : e ρ S = .ok (.bl b) S') : eTest e ρ S = .ok b S' := by
  unfold eTest
  rw [h]
  rfl
theorem eq_ok {a b : Ev} {ρ : Env} {S S1 S2 : Sto} {x y : Int} (h1 : a ρ S = .ok (.int x) S1) (h2 : b ρ S1 = .ok (.int y) S2) : eB dEq a b ρ S = .ok (.bl (decide (x = y))) S2 := b_ok h1 h2 dEq_int
theorem gt_ok {a b : Ev} {ρ : Env} {S S1 S2 : Sto} {x y : Int} (h1 : a ρ S = .ok (.int x) S1) (h2 : b ρ S1 = .ok (.int y) S2) : eB dGt a b ρ S = .ok (.bl (decide (y < x))) S2 := b_ok h1 h2 rfl
theorem and_f {a b : EvB} {ρ : Env} {S S' : Sto} (h : a ρ S = .ok false S') : eAndT a b ρ S = .ok false S' := by
  unfold eAndT
  rw [h]
  rfl
theorem and_2 {a b : EvB} {ρ : Env} {S S' S'' : Sto} {k : Bool} (h : a ρ S = .ok true S') (h2 : b ρ S' = .ok k S'') : eAndT a b ρ S = .ok k S'' := by
  unfold eAndT
  rw [h, Res.bind_ok, if_pos rfl, h2]
theorem or_t {a b : EvB} {ρ : Env} {S S' : Sto} (h : a ρ S = .ok true S') : eOrT a b ρ S = .ok true S' := by
  unfold eOrT
  rw [h]
  rfl
theorem or_2 {a b : EvB} {ρ : Env} {S S' S'' : Sto} {k : Bool} (h : a ρ S = .ok false S') (h2 : b ρ S' = .ok k S'') : eOrT a b ρ S = .ok k S'' := by
  unfold eOrT
  rw [h, Res.bind_ok]
  exact h2
theorem not_b {a : EvB} {ρ : Env} {S S' : Sto} {k : Bool} (h : a ρ S = .ok k S') : eNotT a ρ S = .ok (!k) S' := by
  unfold eNotT
  rw [h]
  rfl
theorem sub_next {g : D → D → D → Sto → Option Sto} {o i e : Ev} {ρ : Env} {S S1 S2 S3 S4 : Sto} {v a k : D} (h1 : e ρ S = .ok v S1) (h2 : o ρ S1 = .ok a S2) (h3 : i ρ S2 = .ok k S3) (h4 : g a k v S3 = some S4) : sSub g o i e ρ S = .next ρ S4 := by
  unfold sSub
  rw [h1, ofRes_ok, h2, ofRes_ok, h3, ofRes_ok, h4]
def Kp (R R' : Sto) : Prop := ∀ (i : Nat) (xs : List D), R[i]? = some xs → R'[i]? = some xs
theorem Kp.refl (R : Sto) : Kp R R := fun _ _ h => h
theorem Kp.app (R G : Sto) : Kp R (R ++ G) := fun i xs h => by
  rw [List.getElem?_append_left (List.getElem?_eq_some_iff.mp h).1, h]
theorem Kp.trans {A B C : Sto} (h : Kp A B) (k : Kp B C) : Kp A C := fun i xs e => k i xs (h i xs e)
theorem tup2 {ρ : Env} {S : Sto} {x y : D} : eTup (aCons (eC x) (aCons (eC y) aNil)) ρ S = .ok (.tup [x, y]) S := by
  simp [eTup, eL, aCons, aNil, eC, dTup_ok]
theorem tup_ev {i l : Nat} {ρ : Env} {S : Sto} {xs : List D} (h : ρ[i]? = some (some (.lst l))) (hl : S[l]? = some xs) : eL dTupOf (aCons (eVar i) aNil) ρ S = .ok (.tup xs) S := by
  unfold eL aCons aNil
  rw [var_ok h, Res.bind_ok, Res.bind_ok, Res.bind_ok, tup_lst hl, lift_some]
theorem list_ev {i l : Nat} {ρ : Env} {S : Sto} {xs : List D} (h : ρ[i]? = some (some (.lst l))) (hl : S[l]? = some xs) : eL dListOf (aCons (eVar i) aNil) ρ S = .ok (.lst S.length) (S ++ [xs]) := by
  unfold eL aCons aNil
  rw [var_ok h, Res.bind_ok, Res.bind_ok, Res.bind_ok, list_lst hl, lift_some]
theorem len_ev {i l : Nat} {ρ : Env} {S : Sto} {xs : List D} (h : ρ[i]? = some (some (.lst l))) (hl : S[l]? = some xs) : eL dLen (aCons (eVar i) aNil) ρ S = .ok (.int xs.length) S := by
  unfold eL aCons aNil
  rw [var_ok h, Res.bind_ok, Res.bind_ok, Res.bind_ok, len_lst hl, lift_some]
theorem cut_lo {xs : List D} {k : Nat} : cutD xs none (some (k : Int)) = xs.take k := by
  unfold cutD
  rw [HT.sIx_nat, HT.sIx_none, List.drop_zero, Nat.sub_zero]
  rcases Nat.le_total k xs.length with h | h
  · rw [Nat.min_eq_left h]
  · rw [Nat.min_eq_right h, List.take_length, List.take_of_length_le h]
theorem cut_hi {xs : List D} {k : Nat} (h : k ≤ xs.length) : cutD xs (some (k : Int)) none = xs.drop k := by
  unfold cutD
  rw [HT.sIx_nat, HT.sIx_none, Nat.min_eq_left h, List.take_of_length_le (by simp)]
theorem sl_lo {i l k : Nat} {ρ : Env} {S : Sto} {xs : List D} {e : Ev} (h : ρ[i]? = some (some (.lst l))) (hl : S[l]? = some xs) (he : e ρ S = .ok (.int (k : Int)) S) : eSl (eVar i) none (some e) ρ S = .ok (.lst S.length) (S ++ [xs.take k]) := by
  unfold eSl
  simp only [var_ok h, Res.bind_ok, he, dSl, hl, Option.map_some, lift_some, cut_lo]
theorem sl_hi {i l k : Nat} {ρ : Env} {S : Sto} {xs : List D} {e : Ev} (h : ρ[i]? = some (some (.lst l))) (hl : S[l]? = some xs) (he : e ρ S = .ok (.int (k : Int)) S) (hk : k ≤ xs.length) : eSl (eVar i) (some e) none ρ S = .ok (.lst S.length) (S ++ [xs.drop k]) := by
  unfold eSl
  simp only [var_ok h, Res.bind_ok, he, dSl, hl, Option.map_some, lift_some, cut_hi hk]
theorem add_lst {S : Sto} {l m : Nat} {xs ys : List D} (h1 : S[l]? = some xs) (h2 : S[m]? = some ys) (h : xs.length + ys.length ≤ 1000000) : dAdd (.lst l) (.lst m) S = some (.lst S.length, S ++ [xs ++ ys]) := by
  unfold dAdd
  simp only [h1, h2]
  rw [if_pos (show xs.length + ys.length ≤ most from h)]
theorem add_tup {S : Sto} {xs ys : List D} (h : xs.length + ys.length ≤ 1000000) : dAdd (.tup xs) (.tup ys) S = some (.tup (xs ++ ys), S) := by
  unfold dAdd
  simp only []
  rw [if_pos (show xs.length + ys.length ≤ most from h)]
theorem lst1 {e1 : Ev} {x : D} {ρ : Env} {S : Sto} (h1 : ∀ S, e1 ρ S = .ok x S) : eLst (aCons e1 aNil) ρ S = .ok (.lst S.length) (S ++ [[x]]) := by
  simp [eLst, eL, aCons, aNil, h1, dLst_ok]
theorem not_v {i : Nat} {ρ : Env} {S : Sto} {b : Bool} (h : ρ[i]? = some (some (.bl b))) : eNot (eVar i) ρ S = .ok (.bl (!b)) S := by
  unfold eNot
  rw [var_ok h]
  rfl
theorem bits_bt {z : Int} (h : Builtin.Int.intBits z ≤ 1048576) : Bt z 2000000 := by
  unfold Builtin.Int.intBits at h
  by_cases hz : z = 0
  · subst hz
    exact Nat.pow_pos (by decide)
  · have e : (z == 0) = false := by simpa using hz
    rw [e] at h
    have h' : z.natAbs.log2 + 1 ≤ 1048576 := h
    have hn : z.natAbs ≠ 0 := by omega
    exact (Nat.log2_lt hn).mp (by omega)
theorem int_at {ns : List Int} {i : Nat} {x : D} (h : (ns.map D.int)[i]? = some x) : ∃ z, ns[i]? = some z ∧ D.int z = x := by
  rw [List.getElem?_map] at h
  cases hh : ns[i]? with
  | none => rw [hh] at h; cases h
  | some u => rw [hh] at h; exact ⟨u, rfl, Option.some.inj h⟩
theorem kw2 {F : List D → Sto → Res D} {a b : Ev} {ρ : Env} {S S1 S2 : Sto} {x y : D} (h1 : a ρ S = .ok x S1) (h2 : b ρ S1 = .ok y S2) : eKw 0 2 2 pm01 F aNil (aCons a (aCons b aNil)) ρ S = F [x, y] S2 := by
  simp [eKw, aCons, aNil, h1, h2, pm01]
theorem eAnd_ok {a b : Ev} {ρ : Env} {S S1 S2 : Sto} {d : D} (h1 : a ρ S = .ok (.bl true) S1) (h2 : b ρ S1 = .ok d S2) : eAnd a b ρ S = .ok d S2 := by
  unfold eAnd
  rw [h1, Res.bind_ok]
  exact h2
theorem take_len {α : Type} {l : List α} {n : Nat} (h : l.length = n) : l.take n = l := by
  rw [← h, List.take_length]
theorem cut_mem {xs : List D} {lo hi : Option Int} {x : D} (h : x ∈ cutD xs lo hi) : x ∈ xs := by
  unfold cutD at h
  exact List.mem_of_mem_drop (List.mem_of_mem_take h)
theorem sl_both {i l : Nat} {ρ : Env} {S : Sto} {xs : List D} {e1 e2 : Ev} {j k : Int} (h : ρ[i]? = some (some (.lst l))) (hl : S[l]? = some xs) (h1 : e1 ρ S = .ok (.int j) S) (h2 : e2 ρ S = .ok (.int k) S) : eSl (eVar i) (some e1) (some e2) ρ S = .ok (.lst S.length) (S ++ [cutD xs (some j) (some k)]) := by
  unfold eSl
  simp only [var_ok h, Res.bind_ok, h1, h2, dSl, hl, Option.map_some, lift_some]
theorem lt_ok {a b : Ev} {ρ : Env} {S S1 S2 : Sto} {x y : Int} (h1 : a ρ S = .ok (.int x) S1) (h2 : b ρ S1 = .ok (.int y) S2) : eB dLt a b ρ S = .ok (.bl (decide (x < y))) S2 := b_ok h1 h2 rfl
theorem u_ok {g : D → Sto → Option (D × Sto)} {a : Ev} {ρ : Env} {S S1 S2 : Sto} {x z : D} (h1 : a ρ S = .ok x S1) (h3 : g x S1 = some (z, S2)) : eU g a ρ S = .ok z S2 := by
  unfold eU
  rw [h1, Res.bind_ok, h3, lift_some]
theorem rep_one {S : Sto} {l n : Nat} {x : D} (h : S[l]? = some [x]) (hn : n < 1000) : dMul (.lst l) (.int (n : Int)) S = some (.lst S.length, S ++ [List.replicate n x]) := by
  unfold dMul
  simp only [h]
  rw [if_pos ⟨by omega, by omega, by simp [most]; omega⟩]
  simp
theorem rev_ev {i l : Nat} {ρ : Env} {S : Sto} {xs : List D} (h : ρ[i]? = some (some (.lst l))) (hl : S[l]? = some xs) : eU dRev (eVar i) ρ S = .ok (.lst S.length) (S ++ [xs.reverse]) := by
  refine u_ok (var_ok h) ?_
  unfold dRev
  simp only [hl, Option.map_some]
theorem tup_of {e : Ev} {l : Nat} {ρ : Env} {S S' : Sto} {xs : List D} (h : e ρ S = .ok (.lst l) S') (hl : S'[l]? = some xs) : eL dTupOf (aCons e aNil) ρ S = .ok (.tup xs) S' := by
  unfold eL aCons aNil
  rw [h, Res.bind_ok, Res.bind_ok, Res.bind_ok, tup_lst hl, lift_some]
theorem q_tup0 (ρ : Env) (S : Sto) : eTup aNil ρ S = .ok (.tup []) S := by
  simp [eTup, eL, aNil, dTup_ok]
theorem if_no {t : EvB} {a b : Es} {ρ : Env} {S S' : Sto} {k : Bool} (h : t ρ S = .ok k S') (hk : k = false) : sSeq (sIf t a sSkip) b ρ S = b ρ S' := by
  subst hk
  rw [seq_next (if_s h)]
/-! ### more steps -/
theorem fmod_nat (a b : Nat) : Int.fmod (a : Int) (b : Int) = ((a % b : Nat) : Int) := by
  rw [Int.fmod_eq_emod_of_nonneg _ (by omega)]
  simp
theorem le_ok {a b : Ev} {ρ : Env} {S S1 S2 : Sto} {x y : Int} (h1 : a ρ S = .ok (.int x) S1) (h2 : b ρ S1 = .ok (.int y) S2) : eB dLe a b ρ S = .ok (.bl (decide (x ≤ y))) S2 := b_ok h1 h2 rfl
theorem ge_ok {a b : Ev} {ρ : Env} {S S1 S2 : Sto} {x y : Int} (h1 : a ρ S = .ok (.int x) S1) (h2 : b ρ S1 = .ok (.int y) S2) : eB dGe a b ρ S = .ok (.bl (decide (y ≤ x))) S2 := b_ok h1 h2 rfl
theorem ne_ok {a b : Ev} {ρ : Env} {S S1 S2 : Sto} {x y : Int} (h1 : a ρ S = .ok (.int x) S1) (h2 : b ρ S1 = .ok (.int y) S2) : eB dNe a b ρ S = .ok (.bl (!decide (x = y))) S2 := b_ok h1 h2 dNe_int
theorem mod_ok {a b : Ev} {ρ : Env} {S S1 S2 : Sto} {x y : Nat} (h1 : a ρ S = .ok (.int (x : Int)) S1) (h2 : b ρ S1 = .ok (.int (y : Int)) S2) (hy : y ≠ 0) : eB dMod a b ρ S = .ok (.int ((x % y : Nat) : Int)) S2 := by
  refine b_ok h1 h2 ?_
  have c : CModA (x : Int) (y : Int) := by unfold CModA; omega
  unfold dMod dI
  simp only [if_pos c, fmod_nat]
theorem lenT_ok {e : Ev} {ρ : Env} {S S1 : Sto} {xs : List D} (h : e ρ S = .ok (.tup xs) S1) : eL dLen (aCons e aNil) ρ S = .ok (.int xs.length) S1 := by
  unfold eL aCons aNil
  rw [h, Res.bind_ok, Res.bind_ok, Res.bind_ok]
  rfl
theorem idxT_ok {a b : Ev} {ρ : Env} {S S1 S2 : Sto} {c : List Int} {p : Int} {xs : List D} (h1 : a ρ S = .ok (.tup xs) S1) (h2 : b ρ S1 = .ok (.int p) S2) (hx : intsOf xs = some c) (hp : p ∈ c) : eIdx a b ρ S = .ok (.int (c.idxOf p : Nat)) S2 := by
  unfold eIdx
  rw [h1, Res.bind_ok]
  simp only []
  rw [h2, Res.bind_ok]
  unfold dIdx
  simp only [hx, Option.bind_some, if_pos hp, lift_some]
theorem idxL_ok {a b : Ev} {ρ : Env} {S S1 S2 : Sto} {c : List Int} {p : Int} {l : Nat} {xs : List D} (h1 : a ρ S = .ok (.lst l) S1) (h2 : b ρ S1 = .ok (.int p) S2) (hl : S2[l]? = some xs) (hx : intsOf xs = some c) (hp : p ∈ c) : eIdx a b ρ S = .ok (.int (c.idxOf p : Nat)) S2 := by
  unfold eIdx
  rw [h1, Res.bind_ok]
  simp only []
  rw [h2, Res.bind_ok]
  unfold dIdx
  simp only [hl, hx, Option.bind_some, if_pos hp, lift_some]
theorem eOr_t {a b : Ev} {ρ : Env} {S S1 : Sto} (h1 : a ρ S = .ok (.bl true) S1) : eOr a b ρ S = .ok (.bl true) S1 := by
  unfold eOr
  rw [h1]
  rfl
theorem eOr_f {a b : Ev} {ρ : Env} {S S1 S2 : Sto} {d : D} (h1 : a ρ S = .ok (.bl false) S1) (h2 : b ρ S1 = .ok d S2) : eOr a b ρ S = .ok d S2 := by
  unfold eOr
  rw [h1, Res.bind_ok]
  exact h2
theorem eAnd_f {a b : Ev} {ρ : Env} {S S1 : Sto} (h1 : a ρ S = .ok (.bl false) S1) : eAnd a b ρ S = .ok (.bl false) S1 := by
  unfold eAnd
  rw [h1]
  rfl
/-- a loop: over what is left; it goes on, or stops -/
theorem for_gen {st : Sto → Prop} {b : D → Env → Option Env} {body : Es} (I : List D → Env → Sto → Prop) (T : Flow → Prop) (hst : ∀ ys ρ S, I ys ρ S → st S)
    (step : ∀ x ys ρ S, I (x :: ys) ρ S → ∃ ρ1, b x ρ = some ρ1 ∧ ((∃ ρ2 S2, (body ρ1 S = .next ρ2 S2 ∨ body ρ1 S = .cont ρ2 S2) ∧ I ys ρ2 S2) ∨ (((∃ d S', body ρ1 S = .ret d S') ∨ ∃ n ns ds ρ' S', body ρ1 S = .exc n ns ds ρ' S') ∧ T (body ρ1 S)))) :
    ∀ (xs : List D) (ρ : Env) (S : Sto), I xs ρ S → (∃ ρ' S', forLoop st b body xs ρ S = .next ρ' S' ∧ I [] ρ' S') ∨ T (forLoop st b body xs ρ S)
  | [], ρ, S, h => .inl ⟨ρ, S, for_nil (hst _ _ _ h), h⟩
  | x :: xs, ρ, S, h => by
    obtain ⟨ρ1, h1, w⟩ := step x xs ρ S h
    rw [forLoop]
    simp only [hst _ _ _ h, if_true, h1]
    rcases w with ⟨ρ2, S2, (h2 | h2), h3⟩ | ⟨(⟨d, S', h2⟩ | ⟨n, ns, ds, ρ', S', h2⟩), h3⟩
    · rw [h2]
      exact for_gen I T hst step xs ρ2 S2 h3
    · rw [h2]
      exact for_gen I T hst step xs ρ2 S2 h3
    · rw [h2] at h3 ⊢
      exact .inr h3
    · rw [h2] at h3 ⊢
      exact .inr h3
/-- a comprehension with a test that leaves the store -/
theorem lc_filter {st : Sto → Prop} {b : D → Env → Option Env} {t : EvB} {e : Ev} {ρ : Env} (q : D → Bool) (f : D → D) {S : Sto} (hst : st S) : ∀ (xs acc : List D), acc.length + xs.length ≤ 1000000 → (∀ x ∈ xs, ∃ ρ1, b x ρ = some ρ1 ∧ t ρ1 S = .ok (q x) S ∧ (q x = true → e ρ1 S = .ok (f x) S)) → lcLoop st b t e ρ xs acc S = .ok (acc ++ (xs.filter q).map f) S
  | [], acc, _, _ => by rw [lc_nil hst]; simp
  | x :: xs, acc, hl, h => by
    obtain ⟨ρ1, h1, h2, h3⟩ := h x (by simp)
    simp only [List.length_cons] at hl
    have ih := fun acc' (hl' : acc'.length + xs.length ≤ 1000000) => lc_filter q f hst xs acc' hl' fun y hy => h y (by simp [hy])
    cases hq : q x with
    | true =>
      rw [lc_cons hst h1 (by rw [h2, hq]) (h3 hq) (by omega), ih _ (by simp; omega), List.filter_cons_of_pos hq]
      simp
    | false =>
      rw [lcLoop]
      simp only [hst, if_true, h1, h2, hq, if_false]
      rw [List.filter_cons_of_neg (by rw [hq]; decide)]
      exact ih acc (by omega)
/-! ### which kind -/
theorem isi_of {T : String} {d : D} {S : Sto} {k : Bool} (h1 : ∀ a b e, d ≠ .exn a b e) (h2 : ∀ xs, d ≠ .wk xs) (h : kitB (tyName d) T = some k) : dIsi T d S = some (.bl k, S) := by
  cases d <;> first
    | exact absurd rfl (h1 _ _ _)
    | exact absurd rfl (h2 _)
    | (unfold dIsi; rw [h]; rfl)
/-- a loop by the item's place: it goes on, or stops -/
theorem for_genI {st : Sto → Prop} {b : D → Env → Option Env} {body : Es} (xs : List D) (I : Nat → Env → Sto → Prop) (T : Flow → Prop) (hst : ∀ i ρ S, I i ρ S → st S)
    (step : ∀ i x ρ S, xs[i]? = some x → I i ρ S → ∃ ρ1, b x ρ = some ρ1 ∧ ((∃ ρ2 S2, (body ρ1 S = .next ρ2 S2 ∨ body ρ1 S = .cont ρ2 S2) ∧ I (i + 1) ρ2 S2) ∨ (((∃ d S', body ρ1 S = .ret d S') ∨ ∃ n ns ds ρ' S', body ρ1 S = .exc n ns ds ρ' S') ∧ T (body ρ1 S))))
    (ρ : Env) (S : Sto) (h : I 0 ρ S) : (∃ ρ' S', forLoop st b body xs ρ S = .next ρ' S' ∧ I xs.length ρ' S') ∨ T (forLoop st b body xs ρ S) := by
  have key := for_gen (st := st) (b := b) (body := body) (fun ys ρ S => ∃ i, ys = xs.drop i ∧ i ≤ xs.length ∧ I i ρ S) T (fun ys ρ S ⟨i, _, _, h⟩ => hst i ρ S h) (fun x ys ρ S ⟨i, e, hi, h⟩ => by
    have hlt : i < xs.length := by
      rcases Nat.lt_or_ge i xs.length with q | q
      · exact q
      · rw [List.drop_eq_nil_iff.mpr q] at e
        cases e
    have hx : xs[i]? = some x := by
      have := congrArg (fun l => l[0]?) e
      simpa [List.getElem?_drop] using this.symm
    have e2 : ys = xs.drop (i + 1) := by
      rw [← List.drop_drop, ← e]
      rfl
    obtain ⟨ρ1, h1, w⟩ := step i x ρ S hx h
    refine ⟨ρ1, h1, ?_⟩
    rcases w with ⟨ρ2, S2, h2, h3⟩ | w
    · exact .inl ⟨ρ2, S2, h2, i + 1, e2, hlt, h3⟩
    · exact .inr w) xs ρ S ⟨0, rfl, Nat.zero_le _, h⟩
  rcases key with ⟨ρ', S', h1, i, e, hi, h2⟩ | k
  · have : xs.length ≤ i := List.drop_eq_nil_iff.mp e.symm
    have e2 : i = xs.length := by omega
    subst e2
    exact .inl ⟨ρ', S', h1, h2⟩
  · exact .inr k
/-- all of a comprehension of bools -/
theorem all_lc {e x : Ev} {v : Nat} {ρ : Env} {S : Sto} {ys : List D} {f : D → Bool} (he : e ρ S = .ok (.tup ys) S) (hl : ys.length ≤ 1000000) (hx : ∀ d ∈ ys, x ((wipeE ρ [v]).set v (some d)) S = .ok (.bl (f d)) S) :
    eL dAll (aCons (eLc (iSeq e) (bName v) tTrue x [v]) aNil) ρ S = .ok (.bl (ys.all f)) (S ++ [ys.map fun d => .bl (f d)]) := by
  have e1 : eLc (iSeq e) (bName v) tTrue x [v] ρ S = .ok (.lst S.length) (S ++ [ys.map fun d => .bl (f d)]) := by
    unfold eLc iSeq srcOf
    rw [he, Res.bind_ok]
    simp only [Res.bind_ok]
    have e0 := lc_map (st := fun _ => True) (b := bName v) (t := tTrue) (e := x) (ρ := wipeE ρ [v]) (fun d => .bl (f d)) (S := S) trivial ys [] (by simpa using hl) (fun d hd => ⟨_, rfl, rfl, hx d hd⟩)
    rw [e0]
    rfl
  unfold eL aCons aNil
  rw [e1]
  simp only [Res.bind_ok]
  have e2 : dAll [.lst S.length] (S ++ [ys.map fun d => .bl (f d)]) = some (.bl (ys.all f), S ++ [ys.map fun d => .bl (f d)]) := by
    unfold dAll
    simp [boolsOf_map]
  rw [e2, lift_some]
theorem inV_int {p : Int} : ∀ c : List Int, inV (.int p) (c.map V.int) = decide (p ∈ c)
  | [] => by
    unfold inV
    simp
  | q :: c => by
    have ih := inV_int (p := p) c
    unfold inV at ih ⊢
    rw [List.map_cons, List.any_cons, ih]
    by_cases h : p = q
    · subst h
      simp [eqV]
    · have h' : ¬ q = p := fun e => h e.symm
      simp [eqV, h, h']
theorem flatL_ints : ∀ c : List Int, flatL (c.map D.int) = some (c.map V.int)
  | [] => rfl
  | q :: c => by
    rw [List.map_cons, flatL, flatL_ints c]
    rfl
theorem in_tup {c : List Int} {p : Int} {S : Sto} : dIn (.int p) (.tup (c.map D.int)) S = some (.bl (decide (p ∈ c)), S) := by
  unfold dIn itemsOf
  simp only [Option.bind_some, flatL_ints, flatD, Option.map_some, inV_int]
theorem notIn_tup {c : List Int} {p : Int} {S : Sto} : dNotIn (.int p) (.tup (c.map D.int)) S = some (.bl (!decide (p ∈ c)), S) := by
  unfold dNotIn itemsOf
  simp only [Option.bind_some, flatL_ints, flatD, Option.map_some, inV_int]
theorem in_lst {c : List Int} {p : Int} {S : Sto} {l : Nat} (h : S[l]? = some (c.map D.int)) : dIn (.int p) (.lst l) S = some (.bl (decide (p ∈ c)), S) := by
  unfold dIn itemsOf
  simp only [h, Option.bind_some, flatL_ints, flatD, Option.map_some, inV_int]
theorem notIn_lst {c : List Int} {p : Int} {S : Sto} {l : Nat} (h : S[l]? = some (c.map D.int)) : dNotIn (.int p) (.lst l) S = some (.bl (!decide (p ∈ c)), S) := by
  unfold dNotIn itemsOf
  simp only [h, Option.bind_some, flatL_ints, flatD, Option.map_some, inV_int]
/-- a comprehension with a test, lists being laid beside -/
theorem lc_filterG {st : Sto → Prop} {b : D → Env → Option Env} {t : EvB} {e : Ev} {ρ : Env} (q : D → Bool) (f : D → D) {S : Sto} (hst : ∀ G, st (S ++ G)) : ∀ (xs acc : List D) (G : Sto), acc.length + xs.length ≤ 1000000 →
    (∀ x ∈ xs, ∃ ρ1, b x ρ = some ρ1 ∧ (∀ G, ∃ G', t ρ1 (S ++ G) = .ok (q x) (S ++ G')) ∧ (q x = true → ∀ G, ∃ G', e ρ1 (S ++ G) = .ok (f x) (S ++ G'))) → ∃ G', lcLoop st b t e ρ xs acc (S ++ G) = .ok (acc ++ (xs.filter q).map f) (S ++ G')
  | [], acc, G, _, _ => ⟨G, by rw [lc_nil (hst G)]; simp⟩
  | x :: xs, acc, G, hl, h => by
    obtain ⟨ρ1, h1, h2, h3⟩ := h x (by simp)
    simp only [List.length_cons] at hl
    have ih := fun acc' G' (hl' : acc'.length + xs.length ≤ 1000000) => lc_filterG q f hst xs acc' G' hl' fun y hy => h y (by simp [hy])
    obtain ⟨G1, k1⟩ := h2 G
    cases hq : q x with
    | true =>
      obtain ⟨G2, k2⟩ := h3 hq G1
      obtain ⟨G3, k3⟩ := ih (acc ++ [f x]) G2 (by simp; omega)
      exact ⟨G3, by rw [lc_cons (hst G) h1 (by rw [k1, hq]) k2 (by omega), k3, List.filter_cons_of_pos hq]; simp⟩
    | false =>
      obtain ⟨G3, k3⟩ := ih acc G1 (by omega)
      refine ⟨G3, ?_⟩
      rw [lcLoop]
      simp only [hst G, if_true, h1, k1, hq, if_false]
      rw [List.filter_cons_of_neg (by rw [hq]; decide)]
      exact k3
end MP
end
section
set_option Elab.async false
set_option linter.all false
set_option maxRecDepth 100000
set_option maxHeartbeats 1000000
/-! SP: circles and sheets as lists of ints; the contracts. -/
namespace LawM
open PySem PySem.Spec PyProof.Rows L2 MP
def di (c : List Int) : D := .tup (c.map D.int)
def dsh (sh : List (List Int)) : D := .tup (sh.map di)
@[simp] theorem intsOf_ints : ∀ c : List Int, intsOf (c.map D.int) = some c
  | [] => rfl
  | n :: c => by rw [List.map_cons, intsOf, intsOf_ints c]; rfl
theorem intsOf_eq : ∀ {xs : List D} {c : List Int}, intsOf xs = some c → xs = c.map D.int
  | [], c, h => by cases h; rfl
  | x :: xs, c, h => by
    cases x <;> first
      | (cases h; done)
      | skip
    unfold intsOf at h
    cases q : intsOf xs with
    | none => rw [q] at h; cases h
    | some m =>
      rw [q] at h
      cases h
      rw [intsOf_eq q]
      rfl
def circOf : D → Option (List Int)
  | .tup xs => intsOf xs
  | _ => none
@[simp] theorem circOf_di (c : List Int) : circOf (di c) = some c := intsOf_ints c
theorem circOf_eq {d : D} {c : List Int} (h : circOf d = some c) : d = di c := by
  cases d <;> first
    | (cases h; done)
    | skip
  rename_i xs
  unfold di
  rw [intsOf_eq (show intsOf xs = some c from h)]
def shL : List D → Option (List (List Int))
  | [] => some []
  | d :: ds => (circOf d).bind fun c => (shL ds).map (c :: ·)
@[simp] theorem shL_di : ∀ sh : List (List Int), shL (sh.map di) = some sh
  | [] => rfl
  | c :: sh => by simp [shL, shL_di sh]
theorem shL_eq : ∀ {xs : List D} {sh : List (List Int)}, shL xs = some sh → xs = sh.map di
  | [], sh, h => by cases h; rfl
  | x :: xs, sh, h => by
    unfold shL at h
    cases q1 : circOf x with
    | none => rw [q1] at h; cases h
    | some c =>
      cases q2 : shL xs with
      | none => rw [q1, q2] at h; cases h
      | some m =>
        rw [q1, q2] at h
        cases h
        rw [shL_eq q2, circOf_eq q1]
        rfl
def shOf : D → Option (List (List Int))
  | .tup xs => shL xs
  | _ => none
@[simp] theorem shOf_dsh (sh : List (List Int)) : shOf (dsh sh) = some sh := shL_di sh
theorem shOf_eq {d : D} {sh : List (List Int)} (h : shOf d = some sh) : d = dsh sh := by
  cases d <;> first
    | (cases h; done)
    | skip
  rename_i xs
  unfold dsh
  rw [shL_eq (show shL xs = some sh from h)]
/-! after, ahead -/
def aft (c : List Int) (p : Int) : Int := c.getD ((c.idxOf p + 1) % c.length) 0
def ahd (c : List Int) (p : Int) : Int := c.getD ((c.idxOf p + c.length - 1) % c.length) 0
def sp_after : List D → Sto → Res D := fun ds S => match ds with
  | [d, .int p] => match circOf d with
    | some c => if p ∈ c then .ok (.int (aft c p)) S else .stuck
    | none => .stuck
  | _ => .stuck
def sp_ahead : List D → Sto → Res D := fun ds S => match ds with
  | [d, .int p] => match circOf d with
    | some c => if p ∈ c then .ok (.int (ahd c p)) S else .stuck
    | none => .stuck
  | _ => .stuck
def sp__law_after : List D → Sto → Res D := sp_after
def sp__law_ahead : List D → Sto → Res D := sp_ahead
/-! kinds -/
def pln : D → Bool
  | .exn .. => false
  | .wk _ => false
  | _ => true
def isI : D → Bool
  | .int _ => true
  | _ => false
def isPl (n : Int) : D → Bool
  | .int i => decide (-4 ≤ i) && decide (i < n)
  | _ => false
def sp_is_integer : List D → Sto → Res D := fun ds S => match ds with
  | [d] => if pln d = true then .ok (.bl (isI d)) S else .stuck
  | _ => .stuck
def sp__law_whole : List D → Sto → Res D := sp_is_integer
def sp_is_place : List D → Sto → Res D := fun ds S => match ds with
  | [.int n, d] => if 0 ≤ n ∧ pln d = true then .ok (.bl (isPl n d)) S else .stuck
  | _ => .stuck
def sideAf (s : Int) : Int := if s = -1 then -4 else s + 1
def sp_side_after : List D → Sto → Res D := fun ds S => match ds with
  | [.int s] => if -4 ≤ s ∧ s < 0 then .ok (.int (sideAf s)) S else .stuck
  | _ => .stuck
def sp__need_side : List D → Sto → Res D := fun ds S => match ds with
  | [.int s] => if -4 ≤ s ∧ s < 0 then .ok .non S else .stuck
  | _ => .stuck
/-! circles -/
def Circ (n : Nat) (i : Nat) (c : List Int) : Prop := 3 ≤ c.length ∧ (∀ p ∈ c, -4 ≤ p ∧ p < n) ∧ (i : Int) ∉ c ∧ c.Nodup ∧ ∀ p ∈ c, c.headD 0 ≤ p
instance (n i : Nat) (c : List Int) : Decidable (Circ n i c) := by unfold Circ; infer_instance
def isCirc (n i : Nat) (d : D) : Bool := match circOf d with
  | some c => decide (Circ n i c)
  | none => false
/-- what may stand at a circle's place -/
def VC : D → Bool
  | .tup ys => decide (ys.length ≤ 1000) && ys.all pln
  | d => pln d
def sp__is_circle : List D → Sto → Res D := fun ds S => match ds with
  | [.int n, .int i, d] => if 0 ≤ n ∧ 0 ≤ i ∧ VC d = true then .ok (.bl (isCirc n.toNat i.toNat d)) S else .stuck
  | _ => .stuck
def sp__law_circle : List D → Sto → Res D := fun ds S => match ds with
  | [d, .int i, .int n] => if 0 ≤ n ∧ 0 ≤ i ∧ VC d = true then .ok (.bl (isCirc n.toNat i.toNat d)) S else .stuck
  | _ => .stuck
/-! sheets -/
abbrev Sheet := List (List Int)
def at' (sh : Sheet) (j : Int) : List Int := sh.getD j.toNat []
/-- the circles are circles -/
def Good (sh : Sheet) : Prop := ∀ (i : Nat) (c : List Int), sh[i]? = some c → Circ sh.length i c
def Tied (sh : Sheet) : Prop := ∀ (i : Nat) (c : List Int), sh[i]? = some c → ∀ j ∈ c, 0 ≤ j → (i : Int) ∈ at' sh j
def pairs (sh : Sheet) : List (Int × Int) := (sh.zipIdx).flatMap fun p => p.1.map fun j => ((p.2 : Int), j)
def tieBad (sh : Sheet) (p : Int × Int) : Bool := decide (0 ≤ p.2) && decide (p.1 ∉ at' sh p.2)
def closes (sh : Sheet) (i j k : Int) : Bool :=
  if j < 0 ∧ k < 0 then decide (k = sideAf j) else if 0 ≤ j ∧ ahd (at' sh j) i ≠ k then false else decide (k < 0) || decide (aft (at' sh k) i = j)
def faceBad (sh : Sheet) (p : Int × Int) : Bool := !closes sh p.1 p.2 (aft (at' sh p.1) p.2)
def Faced (sh : Sheet) : Prop := ∀ p ∈ pairs sh, faceBad sh p = false
def fl (w : Str) (d : D) : Str × D := (w, d)
def badAt (w : Str) (p : Int × Int) : Str × D := (w, .tup [.int p.1, .int p.2])
/-- the walk of a side from a picture on -/
def walkR (sh : Sheet) (s : Int) : Nat → Int → List Int
  | 0, _ => []
  | n + 1, i => i :: (if 0 ≤ ahd (at' sh i) s then walkR sh s n (ahd (at' sh i) s) else [])
def having (sh : Sheet) (s : Int) : List Int := ((sh.zipIdx).filter fun p => decide (s ∈ p.1)).map fun p => (p.2 : Int)
def firsts (sh : Sheet) (s : Int) : List Int := (having sh s).filter fun i => decide (aft (at' sh i) s = sideAf s)
def hasRow (sh : Sheet) (s : Int) : Bool := match firsts sh s with
  | [] => false
  | i :: _ => decide ((walkR sh s sh.length i).length = (having sh s).length)
/-- those found from picture 0 on: d of them walked -/
def addNew : List Int → List Int → List Int
  | F, [] => F
  | F, j :: c => addNew (if 0 ≤ j ∧ j ∉ F then F ++ [j] else F) c
def bfs (sh : Sheet) : Nat → List Int
  | 0 => [0]
  | k + 1 => if k < (bfs sh k).length then addNew (bfs sh k) (at' sh ((bfs sh k).getD k 0)) else bfs sh k
def whole (sh : Sheet) : Bool := decide ((bfs sh sh.length).length = sh.length)
def lows (sh : Sheet) : Nat := ((pairs sh).filter fun p => decide (p.2 < p.1)).length
def faultSh (sh : Sheet) : Option (Str × D) :=
  (((pairs sh).find? (tieBad sh)).map (badAt "tie")) <|> (((pairs sh).find? (faceBad sh)).map (badAt "face")) <|>
  (([-4, -3, -2, -1].find? fun s => !hasRow sh s).map fun s => fl "side" (.int s)) <|>
  (if whole sh = true then none else some (fl "parts" (.int (-1)))) <|> (if lows sh = 3 * sh.length + 1 then none else some (fl "count" (.int (-1))))
def firstBad (n : Nat) : Nat → List D → Option (Str × D)
  | _, [] => none
  | i, d :: ds => if isCirc n i d = true then firstBad n (i + 1) ds else some ("circle", .int i)
def fault : D → Option (Str × D)
  | .tup xs => if xs = [] then some ("plan", .int (-1)) else (firstBad xs.length 0 xs) <|> ((shL xs).bind faultSh)
  | _ => some ("plan", .int (-1))
/-- what may be handed to the checkers -/
def VP : D → Bool
  | .tup xs => decide (xs.length ≤ 100) && xs.all VC
  | d => pln d
def sp_lets_plan : List D → Sto → Res D := fun ds S => match ds with
  | [.tup xs] => if VP (.tup xs) = true then (match fault (.tup xs) with
    | some (w, a) => .exc "InvalidPaper" ["at", "word"] [a, .str w] S
    | none => .ok (.int xs.length) S) else .stuck
  | [d] => if pln d = true then .exc "InvalidPaper" ["at", "word"] [.int (-1), .str "plan"] S else .stuck
  | _ => .stuck
def sp_is_plan : List D → Sto → Res D := fun ds S => match ds with
  | [d] => if VP d = true then .ok (.bl (fault d).isNone) S else .stuck
  | _ => .stuck
def outF : Option (Str × D) → D
  | some (w, a) => .tup [.str w, a]
  | none => .tup []
def sp__law_fault : List D → Sto → Res D := fun ds S => match ds with
  | [d] => if VP d = true then .ok (outF (fault d)) S else .stuck
  | _ => .stuck
def okSh (d : D) (P : Sheet → Prop) (r : Sheet → Res D) : Res D := match shOf d with
  | some sh => r sh
  | none => .stuck
/-! contracts over sheets -/
def inS (sh : Sheet) (i : Int) : Prop := 0 ≤ i ∧ i < sh.length
instance (sh : Sheet) (i : Int) : Decidable (inS sh i) := by unfold inS; infer_instance
open Classical in
noncomputable def sp__closes : List D → Sto → Res D := fun ds S => match ds with
  | [d, .int i, .int j, .int k] => match shOf d with
    | some sh => if Good sh ∧ Tied sh ∧ inS sh i ∧ j ∈ at' sh i ∧ k ∈ at' sh i then .ok (.bl (closes sh i j k)) S else .stuck
    | none => .stuck
  | _ => .stuck
noncomputable def sp__law_corner : List D → Sto → Res D := sp__closes
open Classical in
noncomputable def sp__check_ties : List D → Sto → Res D := fun ds S => match ds with
  | [d] => match shOf d with
    | some sh => if Good sh ∧ sh.length ≤ 1000 then (match (pairs sh).find? (tieBad sh) with
      | some p => .exc "InvalidPaper" ["at", "word"] [(badAt "tie" p).2, .str "tie"] S
      | none => .ok .non S) else .stuck
    | none => .stuck
  | _ => .stuck
open Classical in
noncomputable def sp__check_faces : List D → Sto → Res D := fun ds S => match ds with
  | [d] => match shOf d with
    | some sh => if Good sh ∧ Tied sh ∧ sh.length ≤ 1000 then (match (pairs sh).find? (faceBad sh) with
      | some p => .exc "InvalidPaper" ["at", "word"] [(badAt "face" p).2, .str "face"] S
      | none => .ok .non S) else .stuck
    | none => .stuck
  | _ => .stuck
open Classical in
noncomputable def sp__has_row : List D → Sto → Res D := fun ds S => match ds with
  | [d, .int s] => match shOf d with
    | some sh => if Good sh ∧ Tied sh ∧ Faced sh ∧ -4 ≤ s ∧ s < 0 ∧ sh.length ≤ 1000 then .ok (.bl (hasRow sh s)) S else .stuck
    | none => .stuck
  | _ => .stuck
open Classical in
noncomputable def sp__law_edge : List D → Sto → Res D := sp__has_row
open Classical in
noncomputable def sp__is_whole : List D → Sto → Res D := fun ds S => match ds with
  | [d] => match shOf d with
    | some sh => if Good sh ∧ sh ≠ [] ∧ sh.length ≤ 1000 then .ok (.bl (whole sh)) S else .stuck
    | none => .stuck
  | _ => .stuck
noncomputable def sp__law_hangs : List D → Sto → Res D := sp__is_whole
open Classical in
noncomputable def sp_row_from : List D → Sto → Res D := fun ds S => match ds with
  | [d, .int s, .int i] => match shOf d with
    | some sh => if Good sh ∧ Tied sh ∧ Faced sh ∧ -4 ≤ s ∧ s < 0 ∧ i ∈ firsts sh s ∧ sh.length ≤ 1000 then .ok (di (walkR sh s sh.length i)) S else .stuck
    | none => .stuck
  | _ => .stuck
end LawM
end
section
set_option Elab.async false
set_option linter.all false
set_option maxRecDepth 100000
set_option maxHeartbeats 4000000
/-! the evaluators of the text -/
namespace LawM
open PySem PySem.Spec PyProof.Rows L2 MP
noncomputable section
abbrev N_after : List Str := ["circle", "place"]
def ev_after : Es :=
 (sRet (eB dIx (eVar 0) (eB dMod (eB dAdd (eIdx (eVar 0) (eVar 1)) (eC (.int 1))) (eL dLen (aCons (eVar 0) aNil)))))
def rf_after : List D → Sto → Res D := runDef 2 ev_after

abbrev N_ahead : List Str := ["circle", "place"]
def ev_ahead : Es :=
 (sRet (eB dIx (eVar 0) (eB dSub (eIdx (eVar 0) (eVar 1)) (eC (.int 1)))))
def rf_ahead : List D → Sto → Res D := runDef 2 ev_ahead

abbrev N_row_from : List Str := ["circles", "side", "first", "row", "place"]
def ev_row_from : Es :=
 (sSeq (sAsg 3 (eLst (aCons (eVar 2) aNil)))
 (sSeq (sAsg 4 (eCall 2 sp_ahead (aCons (eB dIx (eVar 0) (eVar 2)) (aCons (eVar 1) aNil))))
 (sSeq (sWhile (eTest (eB dGe (eVar 4) (eC (.int 0))))
 (sSeq (sExpr (eMt mAppend (eVar 3) (aCons (eVar 4) aNil)))
 (sAsg 4 (eCall 2 sp_ahead (aCons (eB dIx (eVar 0) (eVar 4)) (aCons (eVar 1) aNil))))))
 (sRet (eL dTupOf (aCons (eVar 3) aNil))))))
def rf_row_from : List D → Sto → Res D := runDef 5 ev_row_from

abbrev N_is_integer : List Str := ["thing"]
def ev_is_integer : Es :=
 (sRet (eAnd (eU (dIsi "int") (eVar 0)) (eNot (eU (dIsi "bool") (eVar 0)))))
def rf_is_integer : List D → Sto → Res D := runDef 1 ev_is_integer

abbrev N__need_side : List Str := ["side"]
def ev__need_side : Es :=
 (sIf (eOrT (eNotT (eTest (eCall 1 sp_is_integer (aCons (eVar 0) aNil)))) (eNotT (eTest (eChain dLe dLe (eU dNeg (eC (.int 4))) (eVar 0) (eU dNeg (eC (.int 1)))))))
 (sRaise "NotUsable" ["word", "at"] (aCons (eC (.str "side")) (aCons (eU dNeg (eC (.int 1))) aNil)))
 sSkip)
def rf__need_side : List D → Sto → Res D := runDef 1 ev__need_side

abbrev N_side_after : List Str := ["side"]
def ev_side_after : Es :=
 (sSeq (sExpr (eCall 1 sp__need_side (aCons (eVar 0) aNil)))
 (sRet (eIf (eTest (eB dEq (eVar 0) (eU dNeg (eC (.int 1))))) (eU dNeg (eC (.int 4))) (eB dAdd (eVar 0) (eC (.int 1))))))
def rf_side_after : List D → Sto → Res D := runDef 1 ev_side_after

abbrev N_is_place : List Str := ["many", "thing"]
def ev_is_place : Es :=
 (sSeq (sIf (eOrT (eNotT (eTest (eCall 1 sp_is_integer (aCons (eVar 0) aNil)))) (eTest (eB dLt (eVar 0) (eC (.int 0)))))
 (sRaise "NotUsable" ["word", "at"] (aCons (eC (.str "many")) (aCons (eU dNeg (eC (.int 1))) aNil)))
 sSkip)
 (sRet (eAnd (eCall 1 sp_is_integer (aCons (eVar 1) aNil)) (eChain dLe dLt (eU dNeg (eC (.int 4))) (eVar 1) (eVar 0)))))
def rf_is_place : List D → Sto → Res D := runDef 2 ev_is_place

abbrev N__is_circle : List Str := ["many", "picture", "circle", "place"]
def ev__is_circle : Es :=
 (sSeq (sIf (eOrT (eNotT (eTest (eU (dIsi "tuple") (eVar 2)))) (eTest (eB dLt (eL dLen (aCons (eVar 2) aNil)) (eC (.int 3)))))
 (sRet (eC (.bl false)))
 sSkip)
 (sSeq (sIf (eNotT (eTest (eL dAll (aCons (eLc (iSeq (eVar 2)) (bName 3) tTrue (eCall 2 sp_is_place (aCons (eVar 0) (aCons (eVar 3) aNil))) [3]) aNil))))
 (sRet (eC (.bl false)))
 sSkip)
 (sSeq (sIf (eOrT (eTest (eB dIn (eVar 1) (eVar 2))) (eTest (eB dNe (eU dNum (eVar 2)) (eL dLen (aCons (eVar 2) aNil)))))
 (sRet (eC (.bl false)))
 sSkip)
 (sRet (eB dEq (eB dIx (eVar 2) (eC (.int 0))) (eL dMin (aCons (eVar 2) aNil)))))))
def rf__is_circle : List D → Sto → Res D := runDef 4 ev__is_circle

abbrev N__check_ties : List Str := ["circles", "picture", "circle", "place"]
def ev__check_ties : Es :=
 (sFor (iRange enuS (aCons (eVar 0) aNil)) (bTup 2 (bCons (bName 1) (bCons (bName 2) bNil)))
 (sFor (iSeq (eVar 2)) (bName 3)
 (sIf (eAndT (eTest (eB dGe (eVar 3) (eC (.int 0)))) (eTest (eB dNotIn (eVar 1) (eB dIx (eVar 0) (eVar 3)))))
 (sRaise "InvalidPaper" ["word", "at"] (aCons (eC (.str "tie")) (aCons (eTup (aCons (eVar 1) (aCons (eVar 3) aNil))) aNil)))
 sSkip)))
def rf__check_ties : List D → Sto → Res D := runDef 4 ev__check_ties

abbrev N__closes : List Str := ["circles", "picture", "place", "later"]
def ev__closes : Es :=
 (sSeq (sIf (eAndT (eTest (eB dLt (eVar 2) (eC (.int 0)))) (eTest (eB dLt (eVar 3) (eC (.int 0)))))
 (sRet (eB dEq (eVar 3) (eCall 1 sp_side_after (aCons (eVar 2) aNil))))
 sSkip)
 (sSeq (sIf (eAndT (eTest (eB dGe (eVar 2) (eC (.int 0)))) (eTest (eB dNe (eCall 2 sp_ahead (aCons (eB dIx (eVar 0) (eVar 2)) (aCons (eVar 1) aNil))) (eVar 3))))
 (sRet (eC (.bl false)))
 sSkip)
 (sRet (eOr (eB dLt (eVar 3) (eC (.int 0))) (eB dEq (eCall 2 sp_after (aCons (eB dIx (eVar 0) (eVar 3)) (aCons (eVar 1) aNil))) (eVar 2))))))
def rf__closes : List D → Sto → Res D := runDef 4 ev__closes

abbrev N__check_faces : List Str := ["circles", "picture", "circle", "place"]
def ev__check_faces : Es :=
 (sFor (iRange enuS (aCons (eVar 0) aNil)) (bTup 2 (bCons (bName 1) (bCons (bName 2) bNil)))
 (sFor (iSeq (eVar 2)) (bName 3)
 (sIf (eNotT (eTest (eCall 4 sp__closes (aCons (eVar 0) (aCons (eVar 1) (aCons (eVar 3) (aCons (eCall 2 sp_after (aCons (eVar 2) (aCons (eVar 3) aNil))) aNil)))))))
 (sRaise "InvalidPaper" ["word", "at"] (aCons (eC (.str "face")) (aCons (eTup (aCons (eVar 1) (aCons (eVar 3) aNil))) aNil)))
 sSkip)))
def rf__check_faces : List D → Sto → Res D := runDef 4 ev__check_faces

abbrev N__has_row : List Str := ["circles", "side", "having", "picture", "circle", "firsts"]
def ev__has_row : Es :=
 (sSeq (sAsg 2 (eLc (iRange enuS (aCons (eVar 0) aNil)) (bTup 2 (bCons (bName 3) (bCons (bName 4) bNil))) (eTest (eB dIn (eVar 1) (eVar 4))) (eVar 3) [3, 4]))
 (sSeq (sAsg 5 (eLc (iSeq (eVar 2)) (bName 3) (eTest (eB dEq (eCall 2 sp_after (aCons (eB dIx (eVar 0) (eVar 3)) (aCons (eVar 1) aNil))) (eCall 1 sp_side_after (aCons (eVar 1) aNil)))) (eVar 3) [3]))
 (sSeq (sIf (eTest (eB dEq (eL dLen (aCons (eVar 5) aNil)) (eC (.int 0))))
 (sRet (eC (.bl false)))
 sSkip)
 (sRet (eB dEq (eL dLen (aCons (eCall 3 sp_row_from (aCons (eVar 0) (aCons (eVar 1) (aCons (eB dIx (eVar 5) (eC (.int 0))) aNil)))) aNil)) (eL dLen (aCons (eVar 2) aNil)))))))
def rf__has_row : List D → Sto → Res D := runDef 6 ev__has_row

abbrev N__is_whole : List Str := ["circles", "found", "index", "circle", "place"]
def ev__is_whole : Es :=
 (sSeq (sAsg 1 (eLst (aCons (eC (.int 0)) aNil)))
 (sSeq (sAsg 2 (eC (.int 0)))
 (sSeq (sWhile (eTest (eB dLt (eVar 2) (eL dLen (aCons (eVar 1) aNil))))
 (sSeq (sAsg 3 (eB dIx (eVar 0) (eB dIx (eVar 1) (eVar 2))))
 (sSeq (sFor (iSeq (eVar 3)) (bName 4)
 (sIf (eAndT (eTest (eB dGe (eVar 4) (eC (.int 0)))) (eTest (eB dNotIn (eVar 4) (eVar 1))))
 (sExpr (eMt mAppend (eVar 1) (aCons (eVar 4) aNil)))
 sSkip))
 (sAug 2 (dI0 fun i j => .int (i + j)) (eC (.int 1))))))
 (sRet (eB dEq (eL dLen (aCons (eVar 1) aNil)) (eL dLen (aCons (eVar 0) aNil)))))))
def rf__is_whole : List D → Sto → Res D := runDef 5 ev__is_whole

abbrev N_lets_plan : List Str := ["thing", "many", "picture", "circle", "side", "lower", "place"]
def ev_lets_plan : Es :=
 (sSeq (sIf (eOrT (eNotT (eTest (eU (dIsi "tuple") (eVar 0)))) (eTest (eB dEq (eL dLen (aCons (eVar 0) aNil)) (eC (.int 0)))))
 (sRaise "InvalidPaper" ["word", "at"] (aCons (eC (.str "plan")) (aCons (eU dNeg (eC (.int 1))) aNil)))
 sSkip)
 (sSeq (sAsg 1 (eL dLen (aCons (eVar 0) aNil)))
 (sSeq (sFor (iRange enuS (aCons (eVar 0) aNil)) (bTup 2 (bCons (bName 2) (bCons (bName 3) bNil)))
 (sIf (eNotT (eTest (eCall 3 sp__is_circle (aCons (eVar 1) (aCons (eVar 2) (aCons (eVar 3) aNil))))))
 (sRaise "InvalidPaper" ["word", "at"] (aCons (eC (.str "circle")) (aCons (eVar 2) aNil)))
 sSkip))
 (sSeq (sExpr (eCall 1 sp__check_ties (aCons (eVar 0) aNil)))
 (sSeq (sExpr (eCall 1 sp__check_faces (aCons (eVar 0) aNil)))
 (sSeq (sFor (iSeq (eTup (aCons (eU dNeg (eC (.int 4))) (aCons (eU dNeg (eC (.int 3))) (aCons (eU dNeg (eC (.int 2))) (aCons (eU dNeg (eC (.int 1))) aNil)))))) (bName 4)
 (sIf (eNotT (eTest (eCall 2 sp__has_row (aCons (eVar 0) (aCons (eVar 4) aNil)))))
 (sRaise "InvalidPaper" ["word", "at"] (aCons (eC (.str "side")) (aCons (eVar 4) aNil)))
 sSkip))
 (sSeq (sIf (eNotT (eTest (eCall 1 sp__is_whole (aCons (eVar 0) aNil))))
 (sRaise "InvalidPaper" ["word", "at"] (aCons (eC (.str "parts")) (aCons (eU dNeg (eC (.int 1))) aNil)))
 sSkip)
 (sSeq (sAsg 5 (eLc2 (iRange enuS (aCons (eVar 0) aNil)) (bTup 2 (bCons (bName 2) (bCons (bName 3) bNil))) tTrue (iSeq (eVar 3)) (bName 6) (eTest (eB dLt (eVar 6) (eVar 2))) (eVar 6) [2, 3, 6] [6]))
 (sSeq (sIf (eTest (eB dNe (eL dLen (aCons (eVar 5) aNil)) (eB dAdd (eB dMul (eC (.int 3)) (eVar 1)) (eC (.int 1)))))
 (sRaise "InvalidPaper" ["word", "at"] (aCons (eC (.str "count")) (aCons (eU dNeg (eC (.int 1))) aNil)))
 sSkip)
 (sRet (eVar 1)))))))))))
def rf_lets_plan : List D → Sto → Res D := runDef 7 ev_lets_plan

abbrev N_is_plan : List Str := ["thing"]
def ev_is_plan : Es :=
 (sSeq (sTry (dec1 "InvalidPaper") (sExpr (eCall 1 sp_lets_plan (aCons (eVar 0) aNil))) (sRet (eC (.bl false))))
 (sRet (eC (.bl true))))
def rf_is_plan : List D → Sto → Res D := runDef 1 ev_is_plan

abbrev N__law_mixed : List Str := ["_law_cell", "_law_tick", "_law_first", "_law_second", "_law_third"]
def ev__law_mixed : Es :=
 (sSeq (sAsg 2 (eB dMod (eL dInt (aCons (eB dAdd (eB dAdd (eB dMul (eVar 0) (eC (.int 50069))) (eB dMul (eVar 1) (eC (.int 72031)))) (eC (.int 13))) aNil)) (eC (.int 2147480039))))
 (sSeq (sAsg 3 (eB dMod (eL dInt (aCons (eB dAdd (eB dAdd (eB dMul (eVar 2) (eVar 2)) (eB dMul (eVar 1) (eC (.int 30047)))) (eC (.int 5))) aNil)) (eC (.int 2147470049))))
 (sSeq (sAsg 4 (eB dMod (eL dInt (aCons (eB dAdd (eB dAdd (eB dDiv (eB dMul (eVar 3) (eVar 3)) (eC (.int 4099))) (eB dMul (eVar 3) (eC (.int 20047)))) (eVar 1)) aNil)) (eC (.int 2147460053))))
 (sRet (eB dDiv (eVar 4) (eC (.int 8)))))))
def rf__law_mixed : List D → Sto → Res D := runDef 5 ev__law_mixed

abbrev N__law_pool : List Str := ["_law_script", "_law_seed", "_law_cell"]
def ev__law_pool : Es :=
 (sSeq (sAsg 1 (eC (.int 0)))
 (sSeq (sFor (iSeq (eVar 0)) (bName 2)
 (sAsg 1 (eB dMod (eL dInt (aCons (eB dAdd (eB dAdd (eB dMul (eVar 1) (eC (.int 31403))) (eB dMul (eVar 2) (eC (.int 2)))) (eC (.int 5))) aNil)) (eC (.int 2147450051)))))
 (sRet (eLst (aCons (eL dListOf (aCons (eVar 0) aNil)) (aCons (eC (.int 0)) (aCons (eC (.int 0)) (aCons (eVar 1) (aCons (eL dLen (aCons (eVar 0) aNil)) aNil)))))))))
def rf__law_pool : List D → Sto → Res D := runDef 3 ev__law_pool

abbrev N__law_take : List Str := ["_law_pool_here", "_law_size", "_law_cell", "_law_digit"]
def ev__law_take : Es :=
 (sSeq (sIf (eTest (eB dEq (eB dIx (eVar 0) (eC (.int 4))) (eC (.int 0))))
 (sRet (eC (.int 0)))
 sSkip)
 (sSeq (sIf (eAndT (eTest (eB dEq (eB dIx (eVar 0) (eC (.int 1))) (eC (.int 0)))) (eTest (eB dGt (eL dLen (aCons (eB dIx (eVar 0) (eC (.int 0))) aNil)) (eC (.int 0)))))
 (sSeq (sAsg 2 (eL dAbs (aCons (eMt mPopAt (eB dIx (eVar 0) (eC (.int 0))) (aCons (eC (.int 0)) aNil)) aNil)))
 (sSeq (sIf (eTest (eB dLt (eVar 2) (eB dPow (eC (.int 10)) (eC (.int 18)))))
 (sSeq (sSub gSet (eVar 0) (eC (.int 2)) (eB dAdd (eB dIx (eVar 0) (eC (.int 2))) (eC (.int 1))))
 (sRet (eB dMod (eL dInt (aCons (eCall 2 rf__law_mixed (aCons (eVar 2) (aCons (eB dIx (eVar 0) (eC (.int 2))) aNil))) aNil)) (eVar 1))))
 sSkip)
 (sSub gSet (eVar 0) (eC (.int 1)) (eB dMod (eL dInt (aCons (eVar 2) aNil)) (eB dMul (eB dMul (eB dPow (eC (.int 10)) (eC (.int 64))) (eB dPow (eC (.int 10)) (eC (.int 64)))) (eB dPow (eC (.int 10)) (eC (.int 64))))))))
 sSkip)
 (sSeq (sIf (eTest (eB dGt (eB dIx (eVar 0) (eC (.int 1))) (eC (.int 0))))
 (sSeq (sAsg 3 (eB dMod (eL dInt (aCons (eB dIx (eVar 0) (eC (.int 1))) aNil)) (eVar 1)))
 (sSeq (sSub gSet (eVar 0) (eC (.int 1)) (eB dDiv (eB dIx (eVar 0) (eC (.int 1))) (eVar 1)))
 (sRet (eVar 3))))
 sSkip)
 (sSeq (sSub gSet (eVar 0) (eC (.int 2)) (eB dAdd (eB dIx (eVar 0) (eC (.int 2))) (eC (.int 1))))
 (sRet (eB dMod (eL dInt (aCons (eCall 2 rf__law_mixed (aCons (eB dIx (eVar 0) (eC (.int 3))) (aCons (eB dIx (eVar 0) (eC (.int 2))) aNil))) aNil)) (eVar 1)))))))
def rf__law_take : List D → Sto → Res D := runDef 4 ev__law_take

abbrev N__law_told : List Str := ["_law_rows_held", "_law_told_here", "_law_circle_here", "_law_spot"]
def ev__law_told : Es :=
 (sSeq (sAsg 1 (eLst aNil))
 (sSeq (sFor (iSeq (eVar 0)) (bName 2)
 (sSeq (sAsg 3 (eIdx (eVar 2) (eL dMin (aCons (eVar 2) aNil))))
 (sExpr (eMt mAppend (eVar 1) (aCons (eL dTupOf (aCons (eB dAdd (eSl (eVar 2) (some (eVar 3)) none) (eSl (eVar 2) none (some (eVar 3)))) aNil)) aNil)))))
 (sRet (eL dTupOf (aCons (eVar 1) aNil)))))
def rf__law_told : List D → Sto → Res D := runDef 4 ev__law_told

abbrev N__law_part : List Str := ["_law_rows_held", "_law_old", "_law_first", "_law_last", "_law_circle_here", "_law_begin", "_law_turned", "_law_end", "_law_new", "_law_inner"]
def ev__law_part : Es :=
 (sSeq (sAsg 4 (eB dIx (eVar 0) (eVar 1)))
 (sSeq (sAsg 5 (eIdx (eVar 4) (eVar 2)))
 (sSeq (sAsg 6 (eB dAdd (eSl (eVar 4) (some (eVar 5)) none) (eSl (eVar 4) none (some (eVar 5)))))
 (sSeq (sAsg 7 (eIdx (eVar 6) (eVar 3)))
 (sSeq (sAsg 8 (eL dLen (aCons (eVar 0) aNil)))
 (sSeq (sFor (iSeq (eSl (eVar 6) (some (eC (.int 1))) (some (eVar 7)))) (bName 9)
 (sIf (eTest (eB dGe (eVar 9) (eC (.int 0))))
 (sSub gSet (eB dIx (eVar 0) (eVar 9)) (eIdx (eB dIx (eVar 0) (eVar 9)) (eVar 1)) (eVar 8))
 sSkip))
 (sSeq (sIf (eTest (eB dGe (eVar 2) (eC (.int 0))))
 (sExpr (eMt mInsert (eB dIx (eVar 0) (eVar 2)) (aCons (eIdx (eB dIx (eVar 0) (eVar 2)) (eVar 1)) (aCons (eVar 8) aNil))))
 sSkip)
 (sSeq (sIf (eTest (eB dGe (eVar 3) (eC (.int 0))))
 (sExpr (eMt mInsert (eB dIx (eVar 0) (eVar 3)) (aCons (eB dAdd (eIdx (eB dIx (eVar 0) (eVar 3)) (eVar 1)) (eC (.int 1))) (aCons (eVar 8) aNil))))
 sSkip)
 (sSeq (sSub gSet (eVar 0) (eVar 1) (eB dAdd (eSl (eVar 6) (some (eVar 7)) none) (eLst (aCons (eVar 2) (aCons (eVar 8) aNil)))))
 (sExpr (eMt mAppend (eVar 0) (aCons (eB dAdd (eSl (eVar 6) none (some (eB dAdd (eVar 7) (eC (.int 1))))) (eLst (aCons (eVar 1) aNil))) aNil))))))))))))
def rf__law_part : List D → Sto → Res D := runDef 10 ev__law_part

abbrev N__law_grow : List Str := ["_law_pool_here", "_law_rows_held", "_law_count", "_law_k", "_law_old", "_law_circle_here", "_law_begin", "_law_step"]
def ev__law_grow : Es :=
 (sSeq (sFor (iRange rng1 (aCons (eVar 2) aNil)) (bName 3)
 (sSeq (sAsg 4 (eCall 2 rf__law_take (aCons (eVar 0) (aCons (eL dLen (aCons (eVar 1) aNil)) aNil))))
 (sSeq (sAsg 5 (eB dIx (eVar 1) (eVar 4)))
 (sSeq (sAsg 6 (eCall 2 rf__law_take (aCons (eVar 0) (aCons (eL dLen (aCons (eVar 5) aNil)) aNil))))
 (sSeq (sAsg 7 (eB dAdd (eC (.int 1)) (eCall 2 rf__law_take (aCons (eVar 0) (aCons (eB dSub (eL dLen (aCons (eVar 5) aNil)) (eC (.int 1))) aNil)))))
 (sSeq (sIf (eTest (eB dEq (eCall 2 rf__law_take (aCons (eVar 0) (aCons (eC (.int 4)) aNil))) (eC (.int 3))))
 (sAsg 7 (eC (.int 1)))
 sSkip)
 (sExpr (eCall 4 rf__law_part (aCons (eVar 1) (aCons (eVar 4) (aCons (eB dIx (eVar 5) (eVar 6)) (aCons (eB dIx (eVar 5) (eB dMod (eL dInt (aCons (eB dAdd (eVar 6) (eVar 7)) aNil)) (eL dLen (aCons (eVar 5) aNil)))) aNil))))))))))))
 (sRet (eVar 1)))
def rf__law_grow : List D → Sto → Res D := runDef 8 ev__law_grow

abbrev N__law_start : List Str := ["_law_pool_here", "_law_pick", "_law_sheet", "_law_hole", "_law_handle", "_law_four"]
def ev__law_start : Es :=
 (sSeq (sAsg 1 (eCall 2 rf__law_take (aCons (eVar 0) (aCons (eC (.int 24)) aNil))))
 (sSeq (sAsg 2 (eLst (aCons (eLst (aCons (eU dNeg (eC (.int 4))) (aCons (eU dNeg (eC (.int 3))) (aCons (eU dNeg (eC (.int 2))) (aCons (eU dNeg (eC (.int 1))) aNil))))) aNil)))
 (sSeq (sIf (eTest (eB dEq (eVar 1) (eC (.int 16))))
 (sRet (eB dAdd (eVar 2) (eLst (aCons (eLst (aCons (eU dNeg (eC (.int 4))) (aCons (eU dNeg (eC (.int 3))) (aCons (eU dNeg (eC (.int 2))) (aCons (eU dNeg (eC (.int 1))) aNil))))) aNil))))
 sSkip)
 (sSeq (sIf (eOrT (eTest (eB dEq (eVar 1) (eC (.int 17)))) (eTest (eB dEq (eVar 1) (eC (.int 18)))))
 (sRet (eB dAdd (eVar 2) (eLst (aCons (eLst (aCons (eC (.int 2)) (aCons (eC (.int 3)) (aCons (eC (.int 4)) aNil)))) (aCons (eLst (aCons (eC (.int 1)) (aCons (eC (.int 4)) (aCons (eC (.int 3)) aNil)))) (aCons (eLst (aCons (eC (.int 1)) (aCons (eC (.int 2)) (aCons (eC (.int 4)) aNil)))) (aCons (eLst (aCons (eC (.int 1)) (aCons (eC (.int 3)) (aCons (eC (.int 2)) aNil)))) aNil)))))))
 sSkip)
 (sSeq (sIf (eOrT (eTest (eB dEq (eVar 1) (eC (.int 19)))) (eTest (eB dEq (eVar 1) (eC (.int 20)))))
 (sSeq (sAsg 3 (eB dSub (eCall 2 rf__law_take (aCons (eVar 0) (aCons (eC (.int 4)) aNil))) (eC (.int 4))))
 (sRet (eB dAdd (eVar 2) (eLst (aCons (eLst (aCons (eVar 3) (aCons (eC (.int 2)) (aCons (eC (.int 3)) aNil)))) (aCons (eLst (aCons (eVar 3) (aCons (eC (.int 3)) (aCons (eC (.int 1)) aNil)))) (aCons (eLst (aCons (eVar 3) (aCons (eC (.int 1)) (aCons (eC (.int 2)) aNil)))) aNil)))))))
 sSkip)
 (sSeq (sIf (eOrT (eTest (eB dEq (eVar 1) (eC (.int 21)))) (eTest (eB dEq (eVar 1) (eC (.int 22)))))
 (sSeq (sAsg 4 (eLst (aCons (eLst (aCons (eU dNeg (eC (.int 4))) (aCons (eC (.int 1)) (aCons (eC (.int 4)) (aCons (eC (.int 2)) (aCons (eC (.int 3)) (aCons (eU dNeg (eC (.int 3))) (aCons (eU dNeg (eC (.int 2))) (aCons (eU dNeg (eC (.int 1))) aNil))))))))) (aCons (eLst (aCons (eU dNeg (eC (.int 4))) (aCons (eC (.int 3)) (aCons (eC (.int 2)) (aCons (eU dNeg (eC (.int 3))) (aCons (eC (.int 4)) (aCons (eC (.int 0)) aNil))))))) (aCons (eLst (aCons (eU dNeg (eC (.int 4))) (aCons (eU dNeg (eC (.int 3))) (aCons (eC (.int 1)) (aCons (eC (.int 3)) (aCons (eC (.int 0)) (aCons (eC (.int 4)) aNil))))))) aNil)))))
 (sRet (eB dAdd (eVar 4) (eLst (aCons (eLst (aCons (eU dNeg (eC (.int 4))) (aCons (eC (.int 4)) (aCons (eU dNeg (eC (.int 3))) (aCons (eC (.int 0)) (aCons (eC (.int 2)) (aCons (eC (.int 1)) aNil))))))) (aCons (eLst (aCons (eU dNeg (eC (.int 4))) (aCons (eC (.int 2)) (aCons (eC (.int 0)) (aCons (eC (.int 1)) (aCons (eU dNeg (eC (.int 3))) (aCons (eC (.int 3)) aNil))))))) aNil))))))
 sSkip)
 (sSeq (sIf (eTest (eB dEq (eVar 1) (eC (.int 23))))
 (sRet (eLst (aCons (eLst (aCons (eC (.int 1)) (aCons (eC (.int 2)) (aCons (eC (.int 3)) aNil)))) (aCons (eLst (aCons (eC (.int 0)) (aCons (eC (.int 3)) (aCons (eC (.int 2)) aNil)))) (aCons (eLst (aCons (eC (.int 0)) (aCons (eC (.int 1)) (aCons (eC (.int 3)) aNil)))) (aCons (eLst (aCons (eC (.int 0)) (aCons (eC (.int 2)) (aCons (eC (.int 1)) aNil)))) aNil))))))
 sSkip)
 (sSeq (sIf (eTest (eB dEq (eVar 1) (eC (.int 12))))
 (sRet (eLst (aCons (eLst (aCons (eU dNeg (eC (.int 4))) (aCons (eU dNeg (eC (.int 3))) (aCons (eC (.int 1)) (aCons (eC (.int 2)) (aCons (eC (.int 3)) aNil)))))) (aCons (eLst (aCons (eU dNeg (eC (.int 3))) (aCons (eU dNeg (eC (.int 2))) (aCons (eC (.int 2)) (aCons (eC (.int 0)) aNil))))) (aCons (eLst (aCons (eU dNeg (eC (.int 2))) (aCons (eU dNeg (eC (.int 1))) (aCons (eC (.int 3)) (aCons (eC (.int 0)) (aCons (eC (.int 1)) aNil)))))) (aCons (eLst (aCons (eU dNeg (eC (.int 4))) (aCons (eC (.int 0)) (aCons (eC (.int 2)) (aCons (eU dNeg (eC (.int 1))) aNil))))) aNil))))))
 sSkip)
 (sSeq (sIf (eTest (eB dEq (eVar 1) (eC (.int 13))))
 (sSeq (sAsg 5 (eLst (aCons (eLst (aCons (eU dNeg (eC (.int 4))) (aCons (eU dNeg (eC (.int 3))) (aCons (eC (.int 1)) (aCons (eC (.int 4)) (aCons (eC (.int 3)) aNil)))))) (aCons (eLst (aCons (eU dNeg (eC (.int 3))) (aCons (eU dNeg (eC (.int 2))) (aCons (eC (.int 2)) (aCons (eC (.int 4)) (aCons (eC (.int 0)) aNil)))))) (aCons (eLst (aCons (eU dNeg (eC (.int 2))) (aCons (eU dNeg (eC (.int 1))) (aCons (eC (.int 3)) (aCons (eC (.int 4)) (aCons (eC (.int 1)) aNil)))))) (aCons (eLst (aCons (eU dNeg (eC (.int 4))) (aCons (eC (.int 0)) (aCons (eC (.int 4)) (aCons (eC (.int 2)) (aCons (eU dNeg (eC (.int 1))) aNil)))))) aNil))))))
 (sRet (eB dAdd (eVar 5) (eLst (aCons (eLst (aCons (eC (.int 0)) (aCons (eC (.int 1)) (aCons (eC (.int 2)) (aCons (eC (.int 3)) aNil))))) aNil)))))
 sSkip)
 (sSeq (sIf (eTest (eB dEq (eVar 1) (eC (.int 14))))
 (sRet (eLst (aCons (eLst (aCons (eU dNeg (eC (.int 4))) (aCons (eU dNeg (eC (.int 3))) (aCons (eU dNeg (eC (.int 2))) (aCons (eC (.int 4)) (aCons (eC (.int 3)) (aCons (eC (.int 2)) aNil))))))) (aCons (eLst (aCons (eU dNeg (eC (.int 4))) (aCons (eC (.int 2)) (aCons (eC (.int 3)) (aCons (eC (.int 4)) (aCons (eU dNeg (eC (.int 2))) (aCons (eU dNeg (eC (.int 1))) aNil))))))) (aCons (eLst (aCons (eU dNeg (eC (.int 4))) (aCons (eC (.int 0)) (aCons (eC (.int 3)) (aCons (eC (.int 1)) aNil))))) (aCons (eLst (aCons (eC (.int 0)) (aCons (eC (.int 4)) (aCons (eC (.int 1)) (aCons (eC (.int 2)) aNil))))) (aCons (eLst (aCons (eU dNeg (eC (.int 2))) (aCons (eC (.int 1)) (aCons (eC (.int 3)) (aCons (eC (.int 0)) aNil))))) aNil)))))))
 sSkip)
 (sSeq (sIf (eTest (eB dEq (eVar 1) (eC (.int 15))))
 (sRet (eLst (aCons (eLst (aCons (eU dNeg (eC (.int 4))) (aCons (eC (.int 1)) (aCons (eU dNeg (eC (.int 3))) (aCons (eU dNeg (eC (.int 2))) (aCons (eU dNeg (eC (.int 1))) aNil)))))) (aCons (eLst (aCons (eU dNeg (eC (.int 4))) (aCons (eU dNeg (eC (.int 3))) (aCons (eC (.int 0)) aNil)))) aNil))))
 sSkip)
 (sRet (eVar 2)))))))))))))
def rf__law_start : List D → Sto → Res D := runDef 6 ev__law_start

abbrev N__law_whole : List Str := ["_law_value"]
def ev__law_whole : Es :=
 (sRet (eAnd (eU (dIsi "int") (eVar 0)) (eNot (eU (dIsi "bool") (eVar 0)))))
def rf__law_whole : List D → Sto → Res D := runDef 1 ev__law_whole

abbrev N__law_circle : List Str := ["_law_circle_here", "_law_number", "_law_count", "_law_k"]
def ev__law_circle : Es :=
 (sSeq (sIf (eOrT (eNotT (eTest (eU (dIsi "tuple") (eVar 0)))) (eTest (eB dLt (eL dLen (aCons (eVar 0) aNil)) (eC (.int 3)))))
 (sRet (eC (.bl false)))
 sSkip)
 (sSeq (sFor (iRange rng1 (aCons (eL dLen (aCons (eVar 0) aNil)) aNil)) (bName 3)
 (sSeq (sIf (eOrT (eNotT (eTest (eCall 1 sp__law_whole (aCons (eB dIx (eVar 0) (eVar 3)) aNil)))) (eOrT (eTest (eB dLt (eB dIx (eVar 0) (eVar 3)) (eU dNeg (eC (.int 4))))) (eOrT (eTest (eB dGe (eB dIx (eVar 0) (eVar 3)) (eVar 2))) (eTest (eB dEq (eB dIx (eVar 0) (eVar 3)) (eVar 1))))))
 (sRet (eC (.bl false)))
 sSkip)
 (sIf (eOrT (eTest (eB dIn (eB dIx (eVar 0) (eVar 3)) (eSl (eVar 0) none (some (eVar 3))))) (eTest (eB dLt (eB dIx (eVar 0) (eVar 3)) (eB dIx (eVar 0) (eC (.int 0))))))
 (sRet (eC (.bl false)))
 sSkip)))
 (sRet (eC (.bl true)))))
def rf__law_circle : List D → Sto → Res D := runDef 4 ev__law_circle

abbrev N__law_after : List Str := ["_law_circle_here", "_law_part_here"]
def ev__law_after : Es :=
 (sRet (eB dIx (eVar 0) (eB dMod (eL dInt (aCons (eB dAdd (eIdx (eVar 0) (eVar 1)) (eC (.int 1))) aNil)) (eL dLen (aCons (eVar 0) aNil)))))
def rf__law_after : List D → Sto → Res D := runDef 2 ev__law_after

abbrev N__law_ahead : List Str := ["_law_circle_here", "_law_part_here"]
def ev__law_ahead : Es :=
 (sRet (eB dIx (eVar 0) (eB dSub (eIdx (eVar 0) (eVar 1)) (eC (.int 1)))))
def rf__law_ahead : List D → Sto → Res D := runDef 2 ev__law_ahead

abbrev N__law_corner : List Str := ["_law_sheet", "_law_i", "_law_j", "_law_k"]
def ev__law_corner : Es :=
 (sSeq (sIf (eAndT (eTest (eB dLt (eVar 2) (eC (.int 0)))) (eTest (eB dLt (eVar 3) (eC (.int 0)))))
 (sRet (eB dEq (eVar 3) (eB dIx (eLst (aCons (eU dNeg (eC (.int 3))) (aCons (eU dNeg (eC (.int 2))) (aCons (eU dNeg (eC (.int 1))) (aCons (eU dNeg (eC (.int 4))) aNil))))) (eB dAdd (eVar 2) (eC (.int 4))))))
 sSkip)
 (sSeq (sIf (eTest (eB dGe (eVar 2) (eC (.int 0))))
 (sIf (eOrT (eTest (eB dNotIn (eVar 3) (eB dIx (eVar 0) (eVar 2)))) (eTest (eB dNe (eCall 2 sp__law_after (aCons (eB dIx (eVar 0) (eVar 2)) (aCons (eVar 3) aNil))) (eVar 1))))
 (sRet (eC (.bl false)))
 sSkip)
 sSkip)
 (sSeq (sIf (eTest (eB dGe (eVar 3) (eC (.int 0))))
 (sRet (eB dEq (eCall 2 sp__law_after (aCons (eB dIx (eVar 0) (eVar 3)) (aCons (eVar 1) aNil))) (eVar 2)))
 sSkip)
 (sRet (eC (.bl true))))))
def rf__law_corner : List D → Sto → Res D := runDef 4 ev__law_corner

abbrev N__law_edge : List Str := ["_law_sheet", "_law_edge_here", "_law_members", "_law_i", "_law_heads", "_law_now", "_law_walked", "_law_k", "_law_before"]
def ev__law_edge : Es :=
 (sSeq (sAsg 2 (eLc (iRange rng1 (aCons (eL dLen (aCons (eVar 0) aNil)) aNil)) (bName 3) (eTest (eB dIn (eVar 1) (eB dIx (eVar 0) (eVar 3)))) (eVar 3) [3]))
 (sSeq (sAsg 4 (eLc (iSeq (eVar 2)) (bName 3) (eTest (eB dEq (eCall 2 sp__law_after (aCons (eB dIx (eVar 0) (eVar 3)) (aCons (eVar 1) aNil))) (eB dIx (eLst (aCons (eU dNeg (eC (.int 3))) (aCons (eU dNeg (eC (.int 2))) (aCons (eU dNeg (eC (.int 1))) (aCons (eU dNeg (eC (.int 4))) aNil))))) (eB dAdd (eVar 1) (eC (.int 4)))))) (eVar 3) [3]))
 (sSeq (sIf (eTest (eB dNe (eL dLen (aCons (eVar 4) aNil)) (eC (.int 1))))
 (sRet (eC (.bl false)))
 sSkip)
 (sSeq (sAsg 5 (eB dIx (eVar 4) (eC (.int 0))))
 (sSeq (sAsg 6 (eC (.int 1)))
 (sSeq (sFor (iRange rng1 (aCons (eL dLen (aCons (eVar 0) aNil)) aNil)) (bName 7)
 (sSeq (sAsg 8 (eCall 2 sp__law_ahead (aCons (eB dIx (eVar 0) (eVar 5)) (aCons (eVar 1) aNil))))
 (sSeq (sIf (eTest (eB dLt (eVar 8) (eC (.int 0))))
 (sRet (eAnd (eB dEq (eVar 8) (eB dIx (eLst (aCons (eU dNeg (eC (.int 1))) (aCons (eU dNeg (eC (.int 4))) (aCons (eU dNeg (eC (.int 3))) (aCons (eU dNeg (eC (.int 2))) aNil))))) (eB dAdd (eVar 1) (eC (.int 4))))) (eB dEq (eVar 6) (eL dLen (aCons (eVar 2) aNil)))))
 sSkip)
 (sSeq (sAsg 5 (eVar 8))
 (sAsg 6 (eB dAdd (eVar 6) (eC (.int 1))))))))
 (sRet (eC (.bl false)))))))))
def rf__law_edge : List D → Sto → Res D := runDef 9 ev__law_edge

abbrev N__law_hangs : List Str := ["_law_sheet", "_law_found", "_law_k", "_law_j"]
def ev__law_hangs : Es :=
 (sSeq (sAsg 1 (eLst (aCons (eC (.int 0)) aNil)))
 (sSeq (sFor (iRange rng1 (aCons (eL dLen (aCons (eVar 0) aNil)) aNil)) (bName 2)
 (sSeq (sIf (eTest (eB dGe (eVar 2) (eL dLen (aCons (eVar 1) aNil))))
 (sRet (eC (.bl false)))
 sSkip)
 (sFor (iSeq (eB dIx (eVar 0) (eB dIx (eVar 1) (eVar 2)))) (bName 3)
 (sIf (eAndT (eTest (eB dGe (eVar 3) (eC (.int 0)))) (eTest (eB dNotIn (eVar 3) (eVar 1))))
 (sExpr (eMt mAppend (eVar 1) (aCons (eVar 3) aNil)))
 sSkip))))
 (sRet (eC (.bl true)))))
def rf__law_hangs : List D → Sto → Res D := runDef 4 ev__law_hangs

abbrev N__law_fault : List Str := ["_law_value", "_law_count", "_law_i", "_law_j", "_law_edge_here", "_law_twice", "_law_circle_here"]
def ev__law_fault : Es :=
 (sSeq (sIf (eOrT (eNotT (eTest (eU (dIsi "tuple") (eVar 0)))) (eTest (eB dEq (eL dLen (aCons (eVar 0) aNil)) (eC (.int 0)))))
 (sRet (eTup (aCons (eC (.str "plan")) (aCons (eU dNeg (eC (.int 1))) aNil))))
 sSkip)
 (sSeq (sAsg 1 (eL dLen (aCons (eVar 0) aNil)))
 (sSeq (sFor (iRange rng1 (aCons (eVar 1) aNil)) (bName 2)
 (sIf (eNotT (eTest (eCall 3 sp__law_circle (aCons (eB dIx (eVar 0) (eVar 2)) (aCons (eVar 2) (aCons (eVar 1) aNil))))))
 (sRet (eTup (aCons (eC (.str "circle")) (aCons (eVar 2) aNil))))
 sSkip))
 (sSeq (sFor (iRange rng1 (aCons (eVar 1) aNil)) (bName 2)
 (sFor (iSeq (eB dIx (eVar 0) (eVar 2))) (bName 3)
 (sIf (eAndT (eTest (eB dGe (eVar 3) (eC (.int 0)))) (eTest (eB dNotIn (eVar 2) (eB dIx (eVar 0) (eVar 3)))))
 (sRet (eTup (aCons (eC (.str "tie")) (aCons (eTup (aCons (eVar 2) (aCons (eVar 3) aNil))) aNil))))
 sSkip)))
 (sSeq (sFor (iRange rng1 (aCons (eVar 1) aNil)) (bName 2)
 (sFor (iSeq (eB dIx (eVar 0) (eVar 2))) (bName 3)
 (sIf (eNotT (eTest (eCall 4 sp__law_corner (aCons (eVar 0) (aCons (eVar 2) (aCons (eVar 3) (aCons (eCall 2 sp__law_after (aCons (eB dIx (eVar 0) (eVar 2)) (aCons (eVar 3) aNil))) aNil)))))))
 (sRet (eTup (aCons (eC (.str "face")) (aCons (eTup (aCons (eVar 2) (aCons (eVar 3) aNil))) aNil))))
 sSkip)))
 (sSeq (sFor (iSeq (eLst (aCons (eU dNeg (eC (.int 4))) (aCons (eU dNeg (eC (.int 3))) (aCons (eU dNeg (eC (.int 2))) (aCons (eU dNeg (eC (.int 1))) aNil)))))) (bName 4)
 (sIf (eNotT (eTest (eCall 2 sp__law_edge (aCons (eVar 0) (aCons (eVar 4) aNil)))))
 (sRet (eTup (aCons (eC (.str "side")) (aCons (eVar 4) aNil))))
 sSkip))
 (sSeq (sIf (eNotT (eTest (eCall 1 sp__law_hangs (aCons (eVar 0) aNil))))
 (sRet (eTup (aCons (eC (.str "parts")) (aCons (eU dNeg (eC (.int 1))) aNil))))
 sSkip)
 (sSeq (sAsg 5 (eC (.int 0)))
 (sSeq (sFor (iSeq (eVar 0)) (bName 6)
 (sFor (iSeq (eVar 6)) (bName 3)
 (sAsg 5 (eB dAdd (eB dAdd (eVar 5) (eC (.int 1))) (eL dInt (aCons (eB dLt (eVar 3) (eC (.int 0))) aNil))))))
 (sSeq (sIf (eTest (eB dNe (eVar 5) (eB dMul (eC (.int 2)) (eB dAdd (eB dMul (eC (.int 3)) (eVar 1)) (eC (.int 1))))))
 (sRet (eTup (aCons (eC (.str "count")) (aCons (eU dNeg (eC (.int 1))) aNil))))
 sSkip)
 (sRet (eTup aNil))))))))))))
def rf__law_fault : List D → Sto → Res D := runDef 7 ev__law_fault

abbrev N__law_odd : List Str := ["_law_pool_here", "_law_count"]
def ev__law_odd : Es :=
 (sSeq (sIf (eTest (eB dLt (eCall 2 rf__law_take (aCons (eVar 0) (aCons (eC (.int 3)) aNil))) (eC (.int 2))))
 (sRet (eB dSub (eCall 2 rf__law_take (aCons (eVar 0) (aCons (eB dAdd (eVar 1) (eC (.int 6))) aNil))) (eC (.int 5))))
 sSkip)
 (sRet (eB dIx (eLst (aCons (eC (.bl true)) (aCons (eC (.bl false)) (aCons (eC .non) (aCons (eC (.str "N")) (aCons (eU dNeg (eC (.int 4))) (aCons (eTup aNil) (aCons (eTup (aCons (eC (.int 0)) aNil)) (aCons (eB dPow (eC (.int 10)) (eC (.int 30))) aNil))))))))) (eCall 2 rf__law_take (aCons (eVar 0) (aCons (eC (.int 8)) aNil))))))
def rf__law_odd : List D → Sto → Res D := runDef 2 ev__law_odd

abbrev N__law_few : List Str := ["_law_pool_here", "_law_rows_held", "_law_pick", "_law_i", "_law_circle_here", "_law_k", "_law_j", "_law_kept", "_law_other_one"]
def ev__law_few : Es :=
 (sSeq (sAsg 3 (eCall 2 rf__law_take (aCons (eVar 0) (aCons (eL dLen (aCons (eVar 1) aNil)) aNil))))
 (sSeq (sAsg 4 (eB dIx (eVar 1) (eVar 3)))
 (sSeq (sAsg 5 (eCall 2 rf__law_take (aCons (eVar 0) (aCons (eL dLen (aCons (eVar 4) aNil)) aNil))))
 (sSeq (sAsg 6 (eCall 2 rf__law_take (aCons (eVar 0) (aCons (eL dLen (aCons (eVar 4) aNil)) aNil))))
 (sSeq (sIf (eTest (eB dEq (eVar 2) (eC (.int 0))))
 (sSub gSet (eVar 1) (eVar 3) (eB dAdd (eSl (eVar 4) none (some (eVar 5))) (eSl (eVar 4) (some (eB dAdd (eVar 5) (eC (.int 1)))) none)))
 (sIf (eTest (eB dEq (eVar 2) (eC (.int 1))))
 (sSub gSet (eVar 1) (eVar 3) (eB dAdd (eB dAdd (eSl (eVar 4) none (some (eB dAdd (eVar 5) (eC (.int 1))))) (eLst (aCons (eCall 2 rf__law_odd (aCons (eVar 0) (aCons (eL dLen (aCons (eVar 1) aNil)) aNil))) aNil))) (eSl (eVar 4) (some (eB dAdd (eVar 5) (eC (.int 1)))) none)))
 (sIf (eTest (eB dEq (eVar 2) (eC (.int 2))))
 (sSeq (sAsg 7 (eB dIx (eVar 4) (eVar 5)))
 (sSeq (sSub gSet (eVar 4) (eVar 5) (eB dIx (eVar 4) (eVar 6)))
 (sSub gSet (eVar 4) (eVar 6) (eVar 7))))
 (sIf (eTest (eB dEq (eVar 2) (eC (.int 3))))
 (sSub gSet (eVar 4) (eVar 5) (eCall 2 rf__law_odd (aCons (eVar 0) (aCons (eL dLen (aCons (eVar 1) aNil)) aNil))))
 (sIf (eTest (eB dEq (eVar 2) (eC (.int 4))))
 (sSub gSet (eVar 1) (eVar 3) (eB dAdd (eSl (eVar 4) (some (eVar 5)) none) (eSl (eVar 4) none (some (eVar 5)))))
 (sIf (eTest (eB dEq (eVar 2) (eC (.int 5))))
 (sSub gSet (eVar 1) (eVar 3) (eB dAdd (eLst (aCons (eB dIx (eVar 4) (eC (.int 0))) aNil)) (eU dBack (eVar 4))))
 (sSeq (sAsg 7 (eB dIx (eVar 1) (eVar 3)))
 (sSeq (sAsg 8 (eCall 2 rf__law_take (aCons (eVar 0) (aCons (eL dLen (aCons (eVar 1) aNil)) aNil))))
 (sSeq (sSub gSet (eVar 1) (eVar 3) (eB dIx (eVar 1) (eVar 8)))
 (sSub gSet (eVar 1) (eVar 8) (eVar 7)))))))))))
 (sRet (eL dTupOf (aCons (eLc (iSeq (eVar 1)) (bName 4) tTrue (eL dTupOf (aCons (eVar 4) aNil)) [4]) aNil))))))))
def rf__law_few : List D → Sto → Res D := runDef 9 ev__law_few

abbrev N__law_swapped : List Str := ["_law_rows_held", "_law_i", "_law_j", "_law_names", "_law_told_here", "_law_k", "_law_part_here"]
def ev__law_swapped : Es :=
 (sSeq (sAsg 3 (eU dListRg (eL dLen (aCons (eVar 0) aNil))))
 (sSeq (sSub gSet (eVar 3) (eVar 1) (eVar 2))
 (sSeq (sSub gSet (eVar 3) (eVar 2) (eVar 1))
 (sSeq (sAsg 4 (eLst aNil))
 (sSeq (sFor (iRange rng1 (aCons (eL dLen (aCons (eVar 0) aNil)) aNil)) (bName 5)
 (sExpr (eMt mAppend (eVar 4) (aCons (eLc (iSeq (eB dIx (eVar 0) (eB dIx (eVar 3) (eVar 5)))) (bName 6) tTrue (eIf (eTest (eB dGe (eVar 6) (eC (.int 0)))) (eB dIx (eVar 3) (eVar 6)) (eVar 6)) [6]) aNil))))
 (sRet (eCall 1 rf__law_told (aCons (eVar 4) aNil))))))))
def rf__law_swapped : List D → Sto → Res D := runDef 7 ev__law_swapped

abbrev N__law_mirror : List Str := ["_law_rows_held", "_law_sides", "_law_told_here", "_law_circle_here", "_law_part_here"]
def ev__law_mirror : Es :=
 (sSeq (sAsg 2 (eLst aNil))
 (sSeq (sFor (iSeq (eVar 0)) (bName 3)
 (sExpr (eMt mAppend (eVar 2) (aCons (eLc (iSeq (eU dRev (eVar 3))) (bName 4) tTrue (eIf (eTest (eB dLt (eVar 4) (eC (.int 0)))) (eB dIx (eVar 1) (eB dAdd (eVar 4) (eC (.int 4)))) (eVar 4)) [4]) aNil))))
 (sRet (eCall 1 rf__law_told (aCons (eVar 2) aNil)))))
def rf__law_mirror : List D → Sto → Res D := runDef 5 ev__law_mirror

abbrev N__law_changed : List Str := ["_law_pool_here", "_law_sheet", "_law_pick", "_law_rows_held", "_law_circle_here", "_law_i"]
def ev__law_changed : Es :=
 (sSeq (sAsg 3 (eLc (iSeq (eVar 1)) (bName 4) tTrue (eL dListOf (aCons (eVar 4) aNil)) [4]))
 (sSeq (sAsg 5 (eCall 2 rf__law_take (aCons (eVar 0) (aCons (eL dLen (aCons (eVar 1) aNil)) aNil))))
 (sSeq (sIf (eTest (eB dLt (eVar 2) (eC (.int 7))))
 (sRet (eCall 3 rf__law_few (aCons (eVar 0) (aCons (eVar 3) (aCons (eVar 2) aNil)))))
 sSkip)
 (sSeq (sIf (eTest (eB dEq (eVar 2) (eC (.int 7))))
 (sRet (eCall 3 rf__law_swapped (aCons (eVar 3) (aCons (eVar 5) (aCons (eCall 2 rf__law_take (aCons (eVar 0) (aCons (eL dLen (aCons (eVar 1) aNil)) aNil))) aNil)))))
 sSkip)
 (sSeq (sIf (eTest (eB dEq (eVar 2) (eC (.int 8))))
 (sRet (eCall 2 rf__law_mirror (aCons (eVar 3) (aCons (eB dIx (eLst (aCons (eLst (aCons (eU dNeg (eC (.int 2))) (aCons (eU dNeg (eC (.int 3))) (aCons (eU dNeg (eC (.int 4))) (aCons (eU dNeg (eC (.int 1))) aNil))))) (aCons (eLst (aCons (eU dNeg (eC (.int 4))) (aCons (eU dNeg (eC (.int 1))) (aCons (eU dNeg (eC (.int 2))) (aCons (eU dNeg (eC (.int 3))) aNil))))) (aCons (eLst (aCons (eU dNeg (eC (.int 4))) (aCons (eU dNeg (eC (.int 3))) (aCons (eU dNeg (eC (.int 2))) (aCons (eU dNeg (eC (.int 1))) aNil))))) aNil)))) (eCall 2 rf__law_take (aCons (eVar 0) (aCons (eC (.int 3)) aNil)))) aNil))))
 sSkip)
 (sSeq (sIf (eTest (eB dEq (eVar 2) (eC (.int 9))))
 (sRet (eB dAdd (eB dAdd (eSl (eVar 1) none (some (eVar 5))) (eTup (aCons (eB dIx (eVar 3) (eVar 5)) aNil))) (eSl (eVar 1) (some (eB dAdd (eVar 5) (eC (.int 1)))) none)))
 sSkip)
 (sSeq (sIf (eTest (eB dEq (eVar 2) (eC (.int 10))))
 (sRet (eB dAdd (eSl (eVar 1) none (some (eVar 5))) (eSl (eVar 1) (some (eB dAdd (eVar 5) (eC (.int 1)))) none)))
 sSkip)
 (sSeq (sIf (eTest (eB dEq (eVar 2) (eC (.int 11))))
 (sRet (eB dAdd (eVar 1) (eTup (aCons (eB dIx (eLst (aCons (eTup (aCons (eU dNeg (eC (.int 4))) (aCons (eU dNeg (eC (.int 3))) (aCons (eC (.int 0)) aNil)))) (aCons (eTup (aCons (eU dNeg (eC (.int 4))) (aCons (eU dNeg (eC (.int 3))) (aCons (eU dNeg (eC (.int 2))) (aCons (eU dNeg (eC (.int 1))) aNil))))) (aCons (eTup (aCons (eC (.int 0)) (aCons (eC (.int 1)) (aCons (eC (.int 2)) aNil)))) (aCons (eTup aNil) aNil))))) (eCall 2 rf__law_take (aCons (eVar 0) (aCons (eC (.int 4)) aNil)))) aNil))))
 sSkip)
 (sSeq (sIf (eTest (eB dEq (eVar 2) (eC (.int 12))))
 (sRet (eB dIx (eLst (aCons (eL dListOf (aCons (eVar 1) aNil)) (aCons (eC .non) (aCons (eC (.int 5)) (aCons (eC (.str "plan")) (aCons (eTup aNil) (aCons (eC (.bl true)) (aCons (eLst aNil) (aCons (eTup (aCons (eTup aNil) aNil)) (aCons (eTup (aCons (eC .non) aNil)) (aCons (eTup (aCons (eVar 1) aNil)) aNil))))))))))) (eCall 2 rf__law_take (aCons (eVar 0) (aCons (eC (.int 10)) aNil)))))
 sSkip)
 (sRet (eB dAdd (eB dAdd (eSl (eVar 1) none (some (eVar 5))) (eTup (aCons (eB dIx (eLst (aCons (eC .non) (aCons (eC (.int 3)) (aCons (eC (.str "WNES")) (aCons (eTup aNil) (aCons (eTup (aCons (eU dNeg (eC (.int 4))) (aCons (eU dNeg (eC (.int 3))) aNil))) (aCons (eTup (aCons (eU dNeg (eC (.int 4))) (aCons (eU dNeg (eC (.int 3))) (aCons (eU dNeg (eC (.int 3))) (aCons (eU dNeg (eC (.int 1))) aNil))))) aNil))))))) (eCall 2 rf__law_take (aCons (eVar 0) (aCons (eC (.int 6)) aNil)))) aNil))) (eSl (eVar 1) (some (eB dAdd (eVar 5) (eC (.int 1)))) none))))))))))))
def rf__law_changed : List D → Sto → Res D := runDef 6 ev__law_changed

abbrev N__law_ask : List Str := ["_law_value", "_law_named", "_law_told_here", "e"]
def ev__law_ask : Es :=
 (sSeq (sTryAs 3 (dec1 "InvalidPaper") (sAsg 2 (eIf (eTest (eVar 1)) (eKw 0 1 1 pm01 sp_lets_plan aNil (aCons (eVar 0) aNil)) (eCall 1 sp_lets_plan (aCons (eVar 0) aNil)))) (sSeq (sIf (eOrT (eNotT (eTest (eU (dIsE "InvalidPaper" true) (eVar 3)))) (eOrT (eNotT (eTest (eU (dIsE "InvalidPaper" true) (eVar 3)))) (eNotT (eTest (eU (dIsE "InvalidPaper" true) (eVar 3))))))
 (sRet (eTup (aCons (eC (.str "strange")) (aCons (eC (.int 0)) aNil))))
 sSkip)
 (sSeq (sIf (eOrT (eTest (eU (dIsE "InvalidPaper" false) (eVar 3))) (eTest (eU (dIsE "InvalidPaper" false) (eVar 3))))
 (sRet (eTup (aCons (eC (.str "strange")) (aCons (eC (.int 0)) aNil))))
 sSkip)
 (sRet (eTup (aCons (eXf "InvalidPaper" "word" (eVar 3)) (aCons (eXf "InvalidPaper" "at" (eVar 3)) aNil)))))))
 (sRet (eTup (aCons (eC (.str "let")) (aCons (eVar 2) aNil)))))
def rf__law_ask : List D → Sto → Res D := runDef 4 ev__law_ask

abbrev N__law_like : List Str := ["_law_told_here", "_law_due", "_law_k"]
def ev__law_like (self : List D → Sto → Res D) : Es :=
 (sSeq (sIf (eTest (eU (dIsi "tuple") (eVar 1)))
 (sSeq (sIf (eOrT (eNotT (eTest (eU (dIsi "tuple") (eVar 0)))) (eTest (eB dNe (eL dLen (aCons (eVar 0) aNil)) (eL dLen (aCons (eVar 1) aNil)))))
 (sRet (eC (.bl false)))
 sSkip)
 (sSeq (sFor (iRange rng1 (aCons (eL dLen (aCons (eVar 1) aNil)) aNil)) (bName 2)
 (sIf (eNotT (eTest (eCall 2 self (aCons (eB dIx (eVar 0) (eVar 2)) (aCons (eB dIx (eVar 1) (eVar 2)) aNil)))))
 (sRet (eC (.bl false)))
 sSkip))
 (sRet (eC (.bl true)))))
 sSkip)
 (sSeq (sIf (eTest (eU (dIsi "str") (eVar 1)))
 (sRet (eAnd (eU (dIsi "str") (eVar 0)) (eB dEq (eVar 0) (eVar 1))))
 sSkip)
 (sRet (eAnd (eCall 1 sp__law_whole (aCons (eVar 0) aNil)) (eB dEq (eVar 0) (eVar 1))))))
def rr__law_like : Nat → List D → Sto → Res D
  | 0 => fun _ _ => .stuck
  | n + 1 => runDef 3 (ev__law_like (rr__law_like n))
def rf__law_like : List D → Sto → Res D := rr__law_like 6

abbrev N__law_right : List Str := ["_law_value", "_law_named", "_law_due", "_law_good", "_law_told_here"]
def ev__law_right : Es :=
 (sSeq (sAsg 2 (eCall 1 sp__law_fault (aCons (eVar 0) aNil)))
 (sSeq (sAsg 3 (eB dEq (eL dLen (aCons (eVar 2) aNil)) (eC (.int 0))))
 (sSeq (sIf (eTest (eVar 3))
 (sAsg 2 (eTup (aCons (eC (.str "let")) (aCons (eL dLen (aCons (eVar 0) aNil)) aNil))))
 sSkip)
 (sSeq (sIf (eNotT (eTest (eCall 2 rf__law_like (aCons (eCall 2 rf__law_ask (aCons (eVar 0) (aCons (eVar 1) aNil))) (aCons (eVar 2) aNil)))))
 (sRet (eC (.bl false)))
 sSkip)
 (sSeq (sAsg 4 (eIf (eTest (eVar 1)) (eCall 1 sp_is_plan (aCons (eVar 0) aNil)) (eKw 0 1 1 pm01 sp_is_plan aNil (aCons (eVar 0) aNil))))
 (sRet (eAnd (eU (dIsi "bool") (eVar 4)) (eAnd (eB dEq (eVar 4) (eVar 3)) (eCall 2 rf__law_like (aCons (eCall 2 rf__law_ask (aCons (eVar 0) (aCons (eNot (eVar 1)) aNil))) (aCons (eVar 2) aNil)))))))))))
def rf__law_right : List D → Sto → Res D := runDef 5 ev__law_right

abbrev N_law : List Str := ["_law_script", "_law_pool_here", "_law_named", "_law_count", "_law_begun", "_law_sheet", "_law_picks", "_law_k", "_law_pick"]
def ev_law : Es :=
 (sSeq (sAsg 1 (eCall 1 rf__law_pool (aCons (eVar 0) aNil)))
 (sSeq (sAsg 2 (eB dEq (eCall 2 rf__law_take (aCons (eVar 1) (aCons (eC (.int 2)) aNil))) (eC (.int 1))))
 (sSeq (sAsg 3 (eCall 2 rf__law_take (aCons (eVar 1) (aCons (eC (.int 8)) aNil))))
 (sSeq (sIf (eTest (eB dEq (eCall 2 rf__law_take (aCons (eVar 1) (aCons (eC (.int 16)) aNil))) (eC (.int 15))))
 (sAsg 3 (eC (.int 34)))
 sSkip)
 (sSeq (sAsg 4 (eCall 1 rf__law_start (aCons (eVar 1) aNil)))
 (sSeq (sAsg 5 (eCall 1 rf__law_told (aCons (eCall 3 rf__law_grow (aCons (eVar 1) (aCons (eVar 4) (aCons (eVar 3) aNil)))) aNil)))
 (sSeq (sIf (eNotT (eTest (eCall 2 rf__law_right (aCons (eVar 5) (aCons (eVar 2) aNil)))))
 (sRet (eC (.bl false)))
 sSkip)
 (sSeq (sAsg 6 (eLc (iRange rng1 (aCons (eB dSub (eC (.int 8)) (eB dDiv (eVar 3) (eC (.int 7)))) aNil)) (bName 7) tTrue (eCall 2 rf__law_take (aCons (eVar 1) (aCons (eC (.int 14)) aNil))) [7]))
 (sSeq (sFor (iSeq (eB dAdd (eVar 6) (eLst (aCons (eC (.int 7)) aNil)))) (bName 8)
 (sIf (eNotT (eTest (eCall 2 rf__law_right (aCons (eCall 3 rf__law_changed (aCons (eVar 1) (aCons (eVar 5) (aCons (eVar 8) aNil)))) (aCons (eVar 2) aNil)))))
 (sRet (eC (.bl false)))
 sSkip))
 (sRet (eC (.bl true))))))))))))
def rf_law : List D → Sto → Res D := runDef 9 ev_law

end
end LawM
end
section
set_option Elab.async false
set_option linter.all false
set_option maxRecDepth 100000
set_option maxHeartbeats 1000000
/-! S1: after, ahead, kinds, places, circles. -/
namespace LawM
open PySem PySem.Spec PyProof.Rows L2 MP
theorem int_at' {c : List Int} {k : Nat} (h : k < c.length) : (c.map D.int)[k]? = some (.int (c.getD k 0)) := by
  rw [List.getElem?_map, List.getElem?_eq_getElem h, List.getD_eq_getElem?_getD, List.getElem?_eq_getElem h]
  rfl
theorem idx_lt {c : List Int} {p : Int} (h : p ∈ c) : c.idxOf p < c.length := List.idxOf_lt_length_of_mem h
theorem after_ok {c : List Int} {p : Int} (h : p ∈ c) {S : Sto} : rf_after [di c, .int p] S = .ok (.int (aft c p)) S := by
  have hl : 0 < c.length := List.length_pos_of_mem h
  have h1 : (c.idxOf p + 1) % c.length < c.length := Nat.mod_lt _ hl
  have hm := int_at' h1
  unfold rf_after runDef ev_after
  rw [show begins 2 [di c, D.int p] = [some (di c), some (.int p)] from rfl]
  have e1 : eB dAdd (eIdx (eVar 0) (eVar 1)) (eC (.int 1)) [some (di c), some (.int p)] S = .ok (.int ((c.idxOf p + 1 : Nat) : Int)) S := add_ok (idxT_ok (var_ok rfl) (var_ok rfl) (intsOf_ints c) h) c_ok
  have e2 : eL dLen (aCons (eVar 0) aNil) [some (di c), some (.int p)] S = .ok (.int (c.length : Int)) S := (lenT_ok (xs := c.map D.int) (var_ok rfl)).trans (by rw [List.length_map])
  exact congrArg flowRes (ret_ret (b_ok (var_ok (d := di c) rfl) (mod_ok e1 e2 (by omega)) (ix_tup hm)))
theorem int1 {e : Ev} {ρ : MP.Env} {S S1 : Sto} {x : Int} (h : e ρ S = .ok (.int x) S1) : eL dInt (aCons e aNil) ρ S = .ok (.int x) S1 := by
  unfold eL aCons aNil
  rw [h, Res.bind_ok, Res.bind_ok, Res.bind_ok]
  rfl
theorem law_after_ok {c : List Int} {p : Int} (h : p ∈ c) {S : Sto} : rf__law_after [di c, .int p] S = .ok (.int (aft c p)) S := by
  have hl : 0 < c.length := List.length_pos_of_mem h
  have h1 : (c.idxOf p + 1) % c.length < c.length := Nat.mod_lt _ hl
  have hm := int_at' h1
  unfold rf__law_after runDef ev__law_after
  rw [show begins 2 [di c, D.int p] = [some (di c), some (.int p)] from rfl]
  have e1 : eB dAdd (eIdx (eVar 0) (eVar 1)) (eC (.int 1)) [some (di c), some (.int p)] S = .ok (.int ((c.idxOf p + 1 : Nat) : Int)) S := add_ok (idxT_ok (var_ok rfl) (var_ok rfl) (intsOf_ints c) h) c_ok
  have e2 : eL dLen (aCons (eVar 0) aNil) [some (di c), some (.int p)] S = .ok (.int (c.length : Int)) S := (lenT_ok (xs := c.map D.int) (var_ok rfl)).trans (by rw [List.length_map])
  exact congrArg flowRes (ret_ret (b_ok (var_ok (d := di c) rfl) (mod_ok (int1 e1) e2 (by omega)) (ix_tup hm)))
theorem atI_neg1 {xs : List D} {v : D} (h0 : 0 < xs.length) (h : xs[xs.length - 1]? = some v) : atI xs (-1) = some v := by
  unfold atI ixN
  rw [if_neg (by decide), if_pos (by omega)]
  have : ((-1 : Int) + (xs.length : Int)).toNat = xs.length - 1 := by omega
  first
    | (rw [this]; exact h)
    | (simp [this, h])
theorem ahead_ix {c : List Int} {p : Int} (h : p ∈ c) {S : Sto} : dIx (di c) (.int ((c.idxOf p : Nat) - 1)) S = some (.int (ahd c p), S) := by
  have hl : 0 < c.length := List.length_pos_of_mem h
  have hi := idx_lt h
  by_cases h0 : c.idxOf p = 0
  · have e : ahd c p = c.getD (c.length - 1) 0 := by
      unfold ahd
      rw [h0, Nat.zero_add, Nat.mod_eq_of_lt (by omega)]
    rw [h0, e]
    unfold dIx di
    have := int_at' (c := c) (k := c.length - 1) (by omega)
    have e2 := atI_neg1 (xs := c.map D.int) (v := .int (c.getD (c.length - 1) 0)) (by simpa using hl) (by rw [List.length_map]; exact this)
    simp only [Int.cast_ofNat_Int, Int.zero_sub, e2, Option.map_some]
  · have e : ahd c p = c.getD (c.idxOf p - 1) 0 := by
      unfold ahd
      have : c.idxOf p + c.length - 1 = c.idxOf p - 1 + c.length := by omega
      rw [this, Nat.add_mod_right, Nat.mod_eq_of_lt (by omega)]
    rw [e, show ((c.idxOf p : Nat) : Int) - 1 = ((c.idxOf p - 1 : Nat) : Int) by omega]
    exact ix_tup (int_at' (by omega))
theorem ahead_ok {c : List Int} {p : Int} (h : p ∈ c) {S : Sto} : rf_ahead [di c, .int p] S = .ok (.int (ahd c p)) S := by
  unfold rf_ahead runDef ev_ahead
  rw [show begins 2 [di c, D.int p] = [some (di c), some (.int p)] from rfl]
  exact congrArg flowRes (ret_ret (b_ok (var_ok (d := di c) rfl) (sub_ok (idxT_ok (var_ok rfl) (var_ok rfl) (intsOf_ints c) h) c_ok) (ahead_ix h)))
theorem law_ahead_ok {c : List Int} {p : Int} (h : p ∈ c) {S : Sto} : rf__law_ahead [di c, .int p] S = .ok (.int (ahd c p)) S := by
  unfold rf__law_ahead runDef ev__law_ahead
  rw [show begins 2 [di c, D.int p] = [some (di c), some (.int p)] from rfl]
  exact congrArg flowRes (ret_ret (b_ok (var_ok (d := di c) rfl) (sub_ok (idxT_ok (var_ok rfl) (var_ok rfl) (intsOf_ints c) h) c_ok) (ahead_ix h)))
theorem simV {S : Sto} {r : Res D} {d : D} (e : r = .ok d S) (h : MP.Below S.length d) : Sim S r (.ok d S) := Sim.val (G := []) (by simpa using e) h
theorem sim_afterG {rf : List D → Sto → Res D} (h : ∀ (c : List Int) (p : Int) (S : Sto), p ∈ c → rf [di c, .int p] S = .ok (.int (aft c p)) S) : ∀ ds S, Sim S (rf ds S) (sp_after ds S) := by
  intro ds S
  unfold sp_after
  split
  · split
    · rename_i c hc
      split
      · rename_i hp
        rw [circOf_eq hc]
        exact simV (h _ _ _ hp) (by unfold MP.Below; trivial)
      · trivial
    · trivial
  · trivial
theorem sim_aheadG {rf : List D → Sto → Res D} (h : ∀ (c : List Int) (p : Int) (S : Sto), p ∈ c → rf [di c, .int p] S = .ok (.int (ahd c p)) S) : ∀ ds S, Sim S (rf ds S) (sp_ahead ds S) := by
  intro ds S
  unfold sp_ahead
  split
  · split
    · rename_i c hc
      split
      · rename_i hp
        rw [circOf_eq hc]
        exact simV (h _ _ _ hp) (by unfold MP.Below; trivial)
      · trivial
    · trivial
  · trivial
theorem sim_after : ∀ ds S, Sim S (rf_after ds S) (sp_after ds S) := sim_afterG fun _ _ _ h => after_ok h
theorem sim__law_after : ∀ ds S, Sim S (rf__law_after ds S) (sp__law_after ds S) := sim_afterG fun _ _ _ h => law_after_ok h
theorem sim_ahead : ∀ ds S, Sim S (rf_ahead ds S) (sp_ahead ds S) := sim_aheadG fun _ _ _ h => ahead_ok h
theorem sim__law_ahead : ∀ ds S, Sim S (rf__law_ahead ds S) (sp__law_ahead ds S) := sim_aheadG fun _ _ _ h => law_ahead_ok h
/-! kinds -/
theorem ty_mem {d : D} (h : pln d = true) : tyName d ∈ ["NoneType", "bool", "int", "str", "tuple", "list"] := by
  cases d <;> first
    | (cases h; done)
    | (simp [tyName])
theorem no_exn {d : D} (h : pln d = true) : (∀ a b e, d ≠ .exn a b e) ∧ ∀ xs, d ≠ .wk xs := by
  cases d <;> first
    | (cases h; done)
    | exact ⟨fun _ _ _ q => (by cases q), fun _ q => (by cases q)⟩
theorem isi_int {d : D} (h : pln d = true) {S : Sto} : dIsi "int" d S = some (.bl (tyName d == "int" || tyName d == "bool"), S) :=
  isi_of (no_exn h).1 (no_exn h).2 ((by decide +kernel : ∀ t ∈ ["NoneType", "bool", "int", "str", "tuple", "list"], kitB t "int" = some (t == "int" || t == "bool")) _ (ty_mem h))
theorem isi_bool {d : D} (h : pln d = true) {S : Sto} : dIsi "bool" d S = some (.bl (tyName d == "bool"), S) :=
  isi_of (no_exn h).1 (no_exn h).2 ((by decide +kernel : ∀ t ∈ ["NoneType", "bool", "int", "str", "tuple", "list"], kitB t "bool" = some (t == "bool")) _ (ty_mem h))
theorem isi_tup {d : D} (h : pln d = true) {S : Sto} : dIsi "tuple" d S = some (.bl (tyName d == "tuple"), S) :=
  isi_of (no_exn h).1 (no_exn h).2 ((by decide +kernel : ∀ t ∈ ["NoneType", "bool", "int", "str", "tuple", "list"], kitB t "tuple" = some (t == "tuple")) _ (ty_mem h))
theorem isi_str' {d : D} (h : pln d = true) {S : Sto} : dIsi "str" d S = some (.bl (tyName d == "str"), S) :=
  isi_of (no_exn h).1 (no_exn h).2 ((by decide +kernel : ∀ t ∈ ["NoneType", "bool", "int", "str", "tuple", "list"], kitB t "str" = some (t == "str")) _ (ty_mem h))
theorem integer_ok {d : D} (h : pln d = true) {S : Sto} : rf_is_integer [d] S = .ok (.bl (isI d)) S := by
  have h1 := isi_int h (S := S)
  have h2 := isi_bool h (S := S)
  cases d <;> first
    | (cases h; done)
    | simp [rf_is_integer, ev_is_integer, eVar, eC, eB, eU, eL, boolOf, eTest, eNotT, eAndT, eOrT, eNot, eAnd, eOr, eIf, aNil, aCons, eTup, eLst, eChain, sSkip, sSeq, sAsg, sPar, sExpr, sRet, sRetN, sIf, sBrk, sCont, sSub, eCall, eKw, runDef, begins, dI0, dI, dSub, dLt, dLe, dGt, dGe, dNeg, dInt, dAbs, dGcd, dDiv, dMod, sBind, bTup, bCons, bNil, bName, eMt, iSeq, iRange, ofRes, flowRes, srcOf, h1, h2, isI, tyName]
theorem whole_ok {d : D} (h : pln d = true) {S : Sto} : rf__law_whole [d] S = .ok (.bl (isI d)) S := by
  have h1 := isi_int h (S := S)
  have h2 := isi_bool h (S := S)
  cases d <;> first
    | (cases h; done)
    | simp [rf__law_whole, ev__law_whole, eVar, eC, eB, eU, eL, boolOf, eTest, eNotT, eAndT, eOrT, eNot, eAnd, eOr, eIf, aNil, aCons, eTup, eLst, eChain, sSkip, sSeq, sAsg, sPar, sExpr, sRet, sRetN, sIf, sBrk, sCont, sSub, eCall, eKw, runDef, begins, dI0, dI, dSub, dLt, dLe, dGt, dGe, dNeg, dInt, dAbs, dGcd, dDiv, dMod, sBind, bTup, bCons, bNil, bName, eMt, iSeq, iRange, ofRes, flowRes, srcOf, h1, h2, isI, tyName]
theorem sim_intG {rf : List D → Sto → Res D} (h : ∀ (d : D) (S : Sto), pln d = true → rf [d] S = .ok (.bl (isI d)) S) : ∀ ds S, Sim S (rf ds S) (sp_is_integer ds S) := by
  intro ds S
  unfold sp_is_integer
  split
  · split
    · rename_i hp
      exact simV (h _ _ hp) (by unfold MP.Below; trivial)
    · trivial
  · trivial
theorem sim_is_integer : ∀ ds S, Sim S (rf_is_integer ds S) (sp_is_integer ds S) := sim_intG fun _ _ h => integer_ok h
theorem sim__law_whole : ∀ ds S, Sim S (rf__law_whole ds S) (sp__law_whole ds S) := sim_intG fun _ _ h => whole_ok h
theorem spi {d : D} (h : pln d = true) {S : Sto} : sp_is_integer [d] S = .ok (.bl (isI d)) S := by
  unfold sp_is_integer
  simp only [h, if_true]
theorem spw {d : D} (h : pln d = true) {S : Sto} : sp__law_whole [d] S = .ok (.bl (isI d)) S := spi h
theorem place_ok {n : Int} {d : D} (hn : 0 ≤ n) (h : pln d = true) {S : Sto} : rf_is_place [.int n, d] S = .ok (.bl (isPl n d)) S := by
  have h1 : sp_is_integer [.int n] S = .ok (.bl true) S := spi rfl
  have h2 := spi h (S := S)
  have h0 : ¬ n < 0 := by omega
  cases d <;> first
    | (cases h; done)
    | simp [rf_is_place, ev_is_place, eVar, eC, eB, eU, eL, boolOf, eTest, eNotT, eAndT, eOrT, eNot, eAnd, eOr, eIf, aNil, aCons, eTup, eLst, eChain, sSkip, sSeq, sAsg, sPar, sExpr, sRet, sRetN, sIf, sBrk, sCont, sSub, eCall, eKw, runDef, begins, dI0, dI, dSub, dLt, dLe, dGt, dGe, dNeg, dInt, dAbs, dGcd, dDiv, dMod, sBind, bTup, bCons, bNil, bName, eMt, iSeq, iRange, ofRes, flowRes, srcOf, h1, h2, h0, isI, isPl]
    | skip
  rename_i i
  by_cases hi : -4 ≤ i
  · simp [rf_is_place, ev_is_place, eVar, eC, eB, eU, eL, boolOf, eTest, eNotT, eAndT, eOrT, eNot, eAnd, eOr, eIf, aNil, aCons, eTup, eLst, eChain, sSkip, sSeq, sAsg, sPar, sExpr, sRet, sRetN, sIf, sBrk, sCont, sSub, eCall, eKw, runDef, begins, dI0, dI, dSub, dLt, dLe, dGt, dGe, dNeg, dInt, dAbs, dGcd, dDiv, dMod, sBind, bTup, bCons, bNil, bName, eMt, iSeq, iRange, ofRes, flowRes, srcOf, h1, h2, h0, isI, isPl, hi]
  · simp [rf_is_place, ev_is_place, eVar, eC, eB, eU, eL, boolOf, eTest, eNotT, eAndT, eOrT, eNot, eAnd, eOr, eIf, aNil, aCons, eTup, eLst, eChain, sSkip, sSeq, sAsg, sPar, sExpr, sRet, sRetN, sIf, sBrk, sCont, sSub, eCall, eKw, runDef, begins, dI0, dI, dSub, dLt, dLe, dGt, dGe, dNeg, dInt, dAbs, dGcd, dDiv, dMod, sBind, bTup, bCons, bNil, bName, eMt, iSeq, iRange, ofRes, flowRes, srcOf, h1, h2, h0, isI, isPl, hi]
theorem sim_is_place : ∀ ds S, Sim S (rf_is_place ds S) (sp_is_place ds S) := by
  intro ds S
  unfold sp_is_place
  split
  · split
    · rename_i hp
      exact simV (place_ok hp.1 hp.2) (by unfold MP.Below; trivial)
    · trivial
  · trivial
theorem need_ok {s : Int} (h : -4 ≤ s ∧ s < 0) {S : Sto} : rf__need_side [.int s] S = .ok .non S := by
  have h1 : sp_is_integer [.int s] S = .ok (.bl true) S := spi rfl
  have h2 : s ≤ -1 := by omega
  simp [rf__need_side, ev__need_side, eVar, eC, eB, eU, eL, boolOf, eTest, eNotT, eAndT, eOrT, eNot, eAnd, eOr, eIf, aNil, aCons, eTup, eLst, eChain, sSkip, sSeq, sAsg, sPar, sExpr, sRet, sRetN, sIf, sBrk, sCont, sSub, eCall, eKw, runDef, begins, dI0, dI, dSub, dLt, dLe, dGt, dGe, dNeg, dInt, dAbs, dGcd, dDiv, dMod, sBind, bTup, bCons, bNil, bName, eMt, iSeq, iRange, ofRes, flowRes, srcOf, h1, h.1, h2, isI]
theorem sim__need_side : ∀ ds S, Sim S (rf__need_side ds S) (sp__need_side ds S) := by
  intro ds S
  unfold sp__need_side
  split
  · split
    · rename_i hp
      exact simV (need_ok hp) (by unfold MP.Below; trivial)
    · trivial
  · trivial
theorem side_ok {s : Int} (h : -4 ≤ s ∧ s < 0) {S : Sto} : rf_side_after [.int s] S = .ok (.int (sideAf s)) S := by
  have h1 : sp__need_side [.int s] S = .ok .non S := by
    unfold sp__need_side
    simp only [h, and_self, if_true]
  by_cases hs : s = -1
  · subst hs
    simp [rf_side_after, ev_side_after, eVar, eC, eB, eU, eL, boolOf, eTest, eNotT, eAndT, eOrT, eNot, eAnd, eOr, eIf, aNil, aCons, eTup, eLst, eChain, sSkip, sSeq, sAsg, sPar, sExpr, sRet, sRetN, sIf, sBrk, sCont, sSub, eCall, eKw, runDef, begins, dI0, dI, dSub, dLt, dLe, dGt, dGe, dNeg, dInt, dAbs, dGcd, dDiv, dMod, sBind, bTup, bCons, bNil, bName, eMt, iSeq, iRange, ofRes, flowRes, srcOf, h1, sideAf]
  · simp [rf_side_after, ev_side_after, eVar, eC, eB, eU, eL, boolOf, eTest, eNotT, eAndT, eOrT, eNot, eAnd, eOr, eIf, aNil, aCons, eTup, eLst, eChain, sSkip, sSeq, sAsg, sPar, sExpr, sRet, sRetN, sIf, sBrk, sCont, sSub, eCall, eKw, runDef, begins, dI0, dI, dSub, dLt, dLe, dGt, dGe, dNeg, dInt, dAbs, dGcd, dDiv, dMod, sBind, bTup, bCons, bNil, bName, eMt, iSeq, iRange, ofRes, flowRes, srcOf, h1, hs, sideAf]
theorem sim_side_after : ∀ ds S, Sim S (rf_side_after ds S) (sp_side_after ds S) := by
  intro ds S
  unfold sp_side_after
  split
  · split
    · rename_i hp
      exact simV (side_ok hp) (by unfold MP.Below; trivial)
    · trivial
  · trivial
end LawM
end
section
set_option Elab.async false
set_option linter.all false
set_option maxRecDepth 100000
set_option maxHeartbeats 1000000
/-! S2: what is a circle. -/
namespace LawM
open PySem PySem.Spec PyProof.Rows L2 MP
theorem spp {n : Int} {d : D} (hn : 0 ≤ n) (h : pln d = true) {S : Sto} : sp_is_place [.int n, d] S = .ok (.bl (isPl n d)) S := by
  unfold sp_is_place
  simp only [hn, h, and_self, if_true]
theorem pln_of_VC {d : D} (h : VC d = true) : pln d = true := by
  cases d <;> first
    | rfl
    | exact h
theorem all_ints {n : Int} : ∀ {ys : List D}, ys.all (isPl n) = true → ∃ c : List Int, ys = c.map D.int ∧ ∀ p ∈ c, -4 ≤ p ∧ p < n
  | [], _ => ⟨[], rfl, by simp⟩
  | y :: ys, h => by
    rw [List.all_cons, Bool.and_eq_true] at h
    obtain ⟨c, e, hc⟩ := all_ints h.2
    cases y <;> first
      | (simp [isPl] at h; done)
      | skip
    rename_i i
    simp [isPl] at h
    refine ⟨i :: c, by rw [e]; rfl, fun p hp => ?_⟩
    rcases List.mem_cons.mp hp with rfl | hp
    · exact h.1
    · exact hc p hp
theorem all_of {n : Int} {c : List Int} (h : ∀ p ∈ c, -4 ≤ p ∧ p < n) : (c.map D.int).all (isPl n) = true := by
  rw [List.all_eq_true]
  intro d hd
  obtain ⟨p, hp, rfl⟩ := List.mem_map.mp hd
  have := h p hp
  simp [isPl, this]
theorem isCirc_no {n i : Nat} {ys : List D} (h : ys.length < 3 ∨ ys.all (isPl n) = false) : isCirc n i (.tup ys) = false := by
  unfold isCirc
  cases hc : circOf (.tup ys) with
  | none => rfl
  | some c =>
    have e := circOf_eq hc
    unfold di at e
    cases e
    simp only [decide_eq_false_iff_not]
    rintro ⟨h1, h2, _⟩
    rcases h with h | h
    · rw [List.length_map] at h
      omega
    · rw [all_of h2] at h
      cases h
theorem head_min {c : List Int} (h : c ≠ []) : (c.headD 0 = minI c) ↔ ∀ p ∈ c, c.headD 0 ≤ p := by
  match c, h with
  | x :: c, _ =>
    obtain ⟨m1, m2⟩ := minI_spec x c
    rw [List.headD_cons]
    constructor
    · intro e p hp
      rw [e]
      exact m2 p hp
    · intro h
      exact Int.le_antisymm (h _ m1) (m2 x (by simp))
theorem circle_ok {n i : Nat} {d : D} (h : VC d = true) {S : Sto} : ∃ G, rf__is_circle [.int n, .int i, d] S = .ok (.bl (isCirc n i d)) (S ++ G) := by
  have hp := pln_of_VC h
  unfold rf__is_circle runDef ev__is_circle
  rw [show begins 4 [D.int n, .int i, d] = [some (.int n), some (.int i), some d, none] from rfl]
  by_cases ht : tyName d == "tuple"
  · cases d <;> first
      | (simp [tyName] at ht; done)
      | skip
    rename_i ys
    have hv : ys.length ≤ 1000 ∧ ∀ d ∈ ys, pln d = true := by
      unfold VC at h
      simpa using h
    have t1 : eNotT (eTest (eU (dIsi "tuple") (eVar 2))) [some (D.int n), some (.int i), some (.tup ys), none] S = .ok false S := not_b (test_ok (b := true) (u_ok (var_ok rfl) isi_tt))
    have t2 : eTest (eB dLt (eL dLen (aCons (eVar 2) aNil)) (eC (.int 3))) [some (D.int n), some (.int i), some (.tup ys), none] S = .ok (decide ((ys.length : Int) < 3)) S := test_ok (lt_ok (lenT_ok (var_ok rfl)) c_ok)
    by_cases h3 : (ys.length : Int) < 3
    · rw [decide_eq_true h3] at t2
      rw [seq_ret ((if_t (or_2 t1 t2)).trans (ret_ret c_ok)), isCirc_no (.inl (by omega))]
      exact ⟨[], by simp⟩
    · rw [decide_eq_false h3] at t2
      rw [if_no (or_2 t1 t2) rfl]
      have e1 := all_lc (e := eVar 2) (x := eCall 2 sp_is_place (aCons (eVar 0) (aCons (eVar 3) aNil))) (v := 3) (ρ := [some (D.int n), some (.int i), some (.tup ys), none]) (S := S) (ys := ys) (f := isPl n) (var_ok rfl) (by omega) (fun d hd =>
        (call2 (var_ok rfl) (var_ok rfl)).trans (spp (by omega) (hv.2 d hd)))
      cases ha : ys.all (isPl n) with
      | false =>
        rw [ha] at e1
        rw [seq_ret ((if_t (not_b (test_ok e1))).trans (ret_ret c_ok)), isCirc_no (.inr ha)]
        exact ⟨_, rfl⟩
      | true =>
        rw [ha] at e1
        rw [if_no (not_b (test_ok e1)) rfl]
        obtain ⟨c, rfl, hc⟩ := all_ints ha
        clear e1
        generalize [(c.map D.int).map fun d => D.bl (isPl n d)] = G
        rw [List.length_map] at h3
        have hne : c ≠ [] := fun q => by rw [q] at h3; simp at h3
        have t3 : eTest (eB dIn (eVar 1) (eVar 2)) [some (D.int n), some (.int i), some (.tup (c.map D.int)), none] (S ++ G) = .ok (decide ((i : Int) ∈ c)) (S ++ G) := test_ok (b_ok (var_ok rfl) (var_ok rfl) in_tup)
        have t4 : eTest (eB dNe (eU dNum (eVar 2)) (eL dLen (aCons (eVar 2) aNil))) [some (D.int n), some (.int i), some (.tup (c.map D.int)), none] (S ++ G) = .ok (!decide (((diff c).length : Int) = (c.length : Int))) (S ++ G) := by
          refine test_ok (ne_ok (u_ok (var_ok rfl) ?_) ((lenT_ok (xs := c.map D.int) (var_ok rfl)).trans (by rw [List.length_map])))
          unfold dNum
          simp only [intsOf_ints, Option.bind_some]
          rw [if_pos (by have := hv.1; rw [List.length_map] at this; omega)]
        have t5 : eB dEq (eB dIx (eVar 2) (eC (.int 0))) (eL dMin (aCons (eVar 2) aNil)) [some (D.int n), some (.int i), some (.tup (c.map D.int)), none] (S ++ G) = .ok (.bl (decide (c.headD 0 = minI c))) (S ++ G) := by
          refine eq_ok (b_ok (var_ok rfl) c_ok (ix_tup (k := 0) (v := .int (c.headD 0)) ?_)) ?_
          · match c, hne with
            | x :: c, _ => rfl
          · unfold eL aCons aNil
            rw [var_ok (d := .tup (c.map D.int)) rfl]
            simp only [Res.bind_ok]
            unfold dMin itemsOf
            match c, hne with
            | x :: c, _ =>
              simp only [Option.bind_some, intsOf_ints]
              rfl
        have eC' : isCirc n i (.tup (c.map D.int)) = decide (Circ n i c) := by
          unfold isCirc
          rw [show circOf (.tup (c.map D.int)) = some c from intsOf_ints c]
        rw [eC']
        by_cases q1 : (i : Int) ∈ c
        · rw [decide_eq_true q1] at t3
          rw [seq_ret ((if_t (or_t t3)).trans (ret_ret c_ok)), decide_eq_false (fun z => z.2.2.1 q1)]
          exact ⟨G, rfl⟩
        · rw [decide_eq_false q1] at t3
          by_cases q2 : c.Nodup
          · have : ((diff c).length : Int) = (c.length : Int) := by rw [(diff_iff c).mpr q2]
            rw [decide_eq_true this] at t4
            rw [if_no (or_2 t3 t4) rfl, ret_ret t5]
            refine ⟨G, ?_⟩
            have : decide (c.headD 0 = minI c) = decide (Circ n i c) := by
              rw [decide_eq_decide, head_min hne]
              exact ⟨fun z => ⟨by omega, hc, q1, q2, z⟩, fun z => z.2.2.2.2⟩
            rw [this]
            rfl
          · have : ¬ ((diff c).length : Int) = (c.length : Int) := fun z => q2 ((diff_iff c).mp (by omega))
            rw [decide_eq_false this] at t4
            rw [seq_ret ((if_t (or_2 t3 t4)).trans (ret_ret c_ok)), decide_eq_false (fun z => q2 z.2.2.2.1)]
            exact ⟨G, rfl⟩
  · have t1 : eNotT (eTest (eU (dIsi "tuple") (eVar 2))) [some (D.int n), some (.int i), some d, none] S = .ok (!(tyName d == "tuple")) S := not_b (test_ok (u_ok (var_ok rfl) (isi_tup hp)))
    have t0 : (tyName d == "tuple") = false := by simpa using ht
    rw [t0] at t1
    rw [seq_ret ((if_t (or_t t1)).trans (ret_ret c_ok))]
    have : isCirc n i d = false := by
      cases d <;> first
        | rfl
        | (exact absurd rfl ht)
        | (simp [tyName] at ht)
    rw [this]
    exact ⟨[], by simp⟩
theorem sim__is_circle : ∀ ds S, Sim S (rf__is_circle ds S) (sp__is_circle ds S) := by
  intro ds S
  unfold sp__is_circle
  split
  · rename_i n i d
    split
    · rename_i hp
      obtain ⟨G, e⟩ := circle_ok (n := n.toNat) (i := i.toNat) hp.2.2 (S := S)
      rw [Int.toNat_of_nonneg hp.1, Int.toNat_of_nonneg hp.2.1] at e
      exact Sim.val e (by unfold MP.Below; trivial)
    · trivial
  · trivial
end LawM
end
section
set_option Elab.async false
set_option linter.all false
set_option maxRecDepth 100000
set_option maxHeartbeats 1000000
/-! S3: the law's own reading of a circle. -/
namespace LawM
open PySem PySem.Spec PyProof.Rows L2 MP
theorem slT_lo {a e : Ev} {k : Nat} {ρ : MP.Env} {S S1 S2 : Sto} {xs : List D} (h : a ρ S = .ok (.tup xs) S1) (he : e ρ S1 = .ok (.int (k : Int)) S2) : eSl a none (some e) ρ S = .ok (.tup (xs.take k)) S2 := by
  unfold eSl
  simp only [h, Res.bind_ok, he, dSl, lift_some, cut_lo]
theorem or_b {a b : EvB} {ρ : MP.Env} {S : Sto} {k1 k2 : Bool} (h : a ρ S = .ok k1 S) (h2 : b ρ S = .ok k2 S) : eOrT a b ρ S = .ok (k1 || k2) S := by
  cases k1 with
  | true => exact or_t h
  | false => exact or_2 h h2
theorem and_b {a b : EvB} {ρ : MP.Env} {S : Sto} {k1 k2 : Bool} (h : a ρ S = .ok k1 S) (h2 : b ρ S = .ok k2 S) : eAndT a b ρ S = .ok (k1 && k2) S := by
  cases k1 with
  | false => exact and_f h
  | true => exact and_2 h h2
theorem args1 {a : Ev} {ρ : MP.Env} {S S1 : Sto} {x : D} (h : a ρ S = .ok x S1) : aCons a aNil ρ S = .ok [x] S1 := by
  unfold aCons aNil
  rw [h]
  rfl
theorem neg_ok {a : Ev} {ρ : MP.Env} {S S1 : Sto} {x : Int} (h1 : a ρ S = .ok (.int x) S1) : eU dNeg a ρ S = .ok (.int (-x)) S1 := u_ok h1 rfl
theorem circ_eq {n i : Nat} {ys : List D} (h : isCirc n i (.tup ys) = true) : ∃ c : List Int, ys = c.map D.int ∧ Circ n i c := by
  unfold isCirc at h
  cases hc : circOf (.tup ys) with
  | none => rw [hc] at h; cases h
  | some c =>
    rw [hc] at h
    have e := circOf_eq hc
    unfold di at e
    cases e
    exact ⟨c, rfl, of_decide_eq_true h⟩
theorem circ_of {n i : Nat} {c : List Int} (h : Circ n i c) : isCirc n i (.tup (c.map D.int)) = true := by
  unfold isCirc
  rw [show circOf (.tup (c.map D.int)) = some c from intsOf_ints c]
  exact decide_eq_true h
def LcI (n i : Nat) (ys : List D) (S : Sto) (k : Nat) (ρ : MP.Env) (S' : Sto) : Prop := S' = S ∧ (∃ x, ρ = [some (.tup ys), some (.int i), some (.int n), x]) ∧
  ∃ c : List Int, ys.take k = c.map D.int ∧ (∀ p ∈ c, -4 ≤ p ∧ p < n) ∧ (i : Int) ∉ c ∧ c.Nodup ∧ ∀ p ∈ c, c.headD 0 ≤ p
theorem lcircle_ok {n i : Nat} {d : D} (h : VC d = true) {S : Sto} : rf__law_circle [d, .int i, .int n] S = .ok (.bl (isCirc n i d)) S := by
  have hp := pln_of_VC h
  unfold rf__law_circle runDef ev__law_circle
  rw [show begins 4 [d, D.int i, .int n] = [some d, some (.int i), some (.int n), none] from rfl]
  by_cases ht : tyName d == "tuple"
  · cases d <;> first
      | (simp [tyName] at ht; done)
      | skip
    rename_i ys
    have hv : ys.length ≤ 1000 ∧ ∀ d ∈ ys, pln d = true := by
      unfold VC at h
      simpa using h
    have t1 : eNotT (eTest (eU (dIsi "tuple") (eVar 0))) [some (.tup ys), some (D.int i), some (.int n), none] S = .ok false S := not_b (test_ok (b := true) (u_ok (var_ok rfl) isi_tt))
    have t2 : eTest (eB dLt (eL dLen (aCons (eVar 0) aNil)) (eC (.int 3))) [some (.tup ys), some (D.int i), some (.int n), none] S = .ok (decide ((ys.length : Int) < 3)) S := test_ok (lt_ok (lenT_ok (var_ok rfl)) c_ok)
    by_cases h3 : (ys.length : Int) < 3
    · rw [decide_eq_true h3] at t2
      rw [seq_ret ((if_t (or_2 t1 t2)).trans (ret_ret c_ok)), isCirc_no (.inl (by omega))]
      rfl
    · rw [decide_eq_false h3] at t2
      rw [if_no (or_2 t1 t2) rfl]
      rcases for_genI (st := fun _ => True) (b := bName 3) (body := (sSeq (sIf (eOrT (eNotT (eTest (eCall 1 sp__law_whole (aCons (eB dIx (eVar 0) (eVar 3)) aNil)))) (eOrT (eTest (eB dLt (eB dIx (eVar 0) (eVar 3)) (eU dNeg (eC (.int 4))))) (eOrT (eTest (eB dGe (eB dIx (eVar 0) (eVar 3)) (eVar 2))) (eTest (eB dEq (eB dIx (eVar 0) (eVar 3)) (eVar 1))))))
 (sRet (eC (.bl false)))
 sSkip)
 (sIf (eOrT (eTest (eB dIn (eB dIx (eVar 0) (eVar 3)) (eSl (eVar 0) none (some (eVar 3))))) (eTest (eB dLt (eB dIx (eVar 0) (eVar 3)) (eB dIx (eVar 0) (eC (.int 0))))))
 (sRet (eC (.bl false)))
 sSkip))) (rngL 0 ys.length) (LcI n i ys S) (fun F => F = .ret (.bl false) S ∧ isCirc n i (.tup ys) = false) (fun _ _ _ _ => trivial) (fun k x ρ S' hx hI => by
          obtain ⟨rfl, ⟨x0, rfl⟩, c, hc, c1, c2, c3, c4⟩ := hI
          obtain ⟨hk, rfl⟩ := rng_at hx
          refine ⟨[some (.tup ys), some (.int i), some (.int n), some (.int k)], rfl, ?_⟩
          obtain ⟨x, hx⟩ := at_lt hk
          have ex : eB dIx (eVar 0) (eVar 3) [some (.tup ys), some (.int i), some (.int n), some (.int k)] S' = .ok x S' := b_ok (var_ok rfl) (var_ok rfl) (ix_tup hx)
          have px := hv.2 x (List.mem_of_getElem? hx)
          have no : (∀ c', ys = c'.map D.int → Circ n i c' → False) → isCirc n i (.tup ys) = false := fun q => by
            cases e : isCirc n i (.tup ys) with
            | false => rfl
            | true =>
              obtain ⟨c', e1, e2⟩ := circ_eq e
              exact (q c' e1 e2).elim
          have get : ∀ c' : List Int, ys = c'.map D.int → ∃ p, c'[k]? = some p ∧ D.int p = x := fun c' e => int_at (by rw [← e]; exact hx)
          have t1 : eNotT (eTest (eCall 1 sp__law_whole (aCons (eB dIx (eVar 0) (eVar 3)) aNil))) [some (.tup ys), some (.int i), some (.int n), some (.int k)] S' = .ok (!isI x) S' := not_b (test_ok ((call1 ex).trans (spw px)))
          by_cases hxi : isI x = true
          · cases x <;> first
              | (cases hxi; done)
              | skip
            rename_i p
            have t2 : eTest (eB dLt (eB dIx (eVar 0) (eVar 3)) (eU dNeg (eC (.int 4)))) [some (.tup ys), some (.int i), some (.int n), some (.int k)] S' = .ok (decide (p < -4)) S' := test_ok (lt_ok ex (neg_ok c_ok))
            have t3 : eTest (eB dGe (eB dIx (eVar 0) (eVar 3)) (eVar 2)) [some (.tup ys), some (.int i), some (.int n), some (.int k)] S' = .ok (decide ((n : Int) ≤ p)) S' := test_ok (ge_ok ex (var_ok rfl))
            have t4 : eTest (eB dEq (eB dIx (eVar 0) (eVar 3)) (eVar 1)) [some (.tup ys), some (.int i), some (.int n), some (.int k)] S' = .ok (decide (p = i)) S' := test_ok (eq_ok ex (var_ok rfl))
            have t5 : eTest (eB dIn (eB dIx (eVar 0) (eVar 3)) (eSl (eVar 0) none (some (eVar 3)))) [some (.tup ys), some (.int i), some (.int n), some (.int k)] S' = .ok (decide (p ∈ c)) S' := test_ok (b_ok ex (slT_lo (var_ok rfl) (var_ok rfl)) (by rw [hc]; exact in_tup))
            have h0 : ∃ h : Int, ys[0]? = some (.int h) ∧ h = (c ++ [p]).headD 0 := by
              have : (ys.take (k + 1))[0]? = ys[0]? := by rw [List.getElem?_take_of_lt (by omega)]
              rw [← this, take_next hx, hc, show [D.int p] = [p].map D.int from rfl, ← List.map_append]
              cases c <;> exact ⟨_, rfl, rfl⟩
            obtain ⟨h, h0, hh⟩ := h0
            have t6 : eTest (eB dLt (eB dIx (eVar 0) (eVar 3)) (eB dIx (eVar 0) (eC (.int 0)))) [some (.tup ys), some (.int i), some (.int n), some (.int k)] S' = .ok (decide (p < h)) S' := test_ok (lt_ok ex (b_ok (var_ok rfl) c_ok (ix_tup (k := 0) h0)))
            rw [show (!isI (.int p)) = false from rfl] at t1
            have tt := or_2 t1 (or_b t2 (or_b t3 t4))
            have tu := or_b t5 t6
            cases q1 : (decide (p < -4) || (decide ((n : Int) ≤ p) || decide (p = i))) with
            | true =>
              rw [q1] at tt
              refine .inr ⟨.inl ⟨_, _, seq_ret ((if_t tt).trans (ret_ret c_ok))⟩, seq_ret ((if_t tt).trans (ret_ret c_ok)), no fun c' e1 e2 => ?_⟩
              obtain ⟨p', g1, g2⟩ := get c' e1
              cases g2
              have m := List.mem_of_getElem? g1
              have := e2.2.1 p m
              have w := e2.2.2.1
              simp at q1
              rcases q1 with q | q | q
              · omega
              · omega
              · subst q
                exact w m
            | false =>
              rw [q1] at tt
              rw [if_no tt rfl]
              cases q2 : (decide (p ∈ c) || decide (p < h)) with
              | true =>
                rw [q2] at tu
                refine .inr ⟨.inl ⟨_, _, (if_t tu).trans (ret_ret c_ok)⟩, (if_t tu).trans (ret_ret c_ok), no fun c' e1 e2 => ?_⟩
                obtain ⟨p', g1, g2⟩ := get c' e1
                cases g2
                have m := List.mem_of_getElem? g1
                have ec : c = c'.take k := by
                  rw [e1, ← List.map_take] at hc
                  have := congrArg intsOf hc
                  rw [intsOf_ints, intsOf_ints] at this
                  exact (Option.some.inj this).symm
                simp at q2
                rcases q2 with q | q
                · have nd := e2.2.2.2.1
                  rw [← List.take_append_drop k c', List.nodup_append] at nd
                  rw [ec] at q
                  have m2 : p ∈ c'.drop k := List.mem_of_getElem? (i := 0) (by rw [List.getElem?_drop]; exact g1)
                  exact nd.2.2 p q p m2 rfl
                · have := e2.2.2.2.2 p m
                  have : h = c'.headD 0 := by
                    rw [hh, ec]
                    match c', g1 with
                    | y :: c'', g1 =>
                      cases k with
                      | zero => simp at g1; simp [g1]
                      | succ k => rfl
                  omega
              | false =>
                rw [q2] at tu
                refine .inl ⟨_, _, .inl (if_s tu), rfl, ⟨_, rfl⟩, c ++ [p], ?_, ?_, ?_, ?_, ?_⟩
                · rw [take_next hx, hc, List.map_append]
                  rfl
                · simp at q1
                  intro r hr
                  rcases List.mem_append.mp hr with hr | hr
                  · exact c1 r hr
                  · simp at hr
                    omega
                · simp at q1
                  simp
                  exact ⟨c2, fun z => q1.2.2 z.symm⟩
                · simp at q2
                  rw [List.nodup_append]
                  exact ⟨c3, by simp, fun a ha b hb z => by simp at hb; subst hb; subst z; exact q2.1 ha⟩
                · simp at q2
                  intro r hr
                  rw [← hh]
                  rcases List.mem_append.mp hr with hr | hr
                  · have := c4 r hr
                    rw [hh]
                    cases c with
                    | nil => cases hr
                    | cons y c => exact this
                  · simp at hr
                    omega
          · have : isI x = false := by simpa using hxi
            rw [this] at t1
            refine .inr ⟨.inl ⟨_, _, seq_ret ((if_t (or_t t1)).trans (ret_ret c_ok))⟩, seq_ret ((if_t (or_t t1)).trans (ret_ret c_ok)), no fun c' e1 e2 => ?_⟩
            obtain ⟨p, _, rfl⟩ := get c' e1
            cases this) [some (.tup ys), some (.int i), some (.int n), none] S ⟨rfl, ⟨_, rfl⟩, [], rfl, by simp, by simp, by simp, by simp⟩ with ⟨ρ', S', e, rfl, ⟨x0, rfl⟩, c, hc, c1, c2, c3, c4⟩ | ⟨e, hn⟩
      · rw [List.take_of_length_le (by rw [rngL_length]; omega)] at hc
        subst hc
        rw [seq_next (for_rng (n := (c.map D.int).length) (args1 (lenT_ok (var_ok rfl))) (by omega) e), ret_ret c_ok, circ_of ⟨by rw [List.length_map] at h3; omega, c1, c2, c3, c4⟩]
        rfl
      · rw [seq_ret (for_rng (n := ys.length) (args1 (lenT_ok (var_ok rfl))) (by omega) e), hn]
        rfl
  · have t1 : eNotT (eTest (eU (dIsi "tuple") (eVar 0))) [some d, some (D.int i), some (.int n), none] S = .ok (!(tyName d == "tuple")) S := not_b (test_ok (u_ok (var_ok rfl) (isi_tup hp)))
    have t0 : (tyName d == "tuple") = false := by simpa using ht
    rw [t0] at t1
    rw [seq_ret ((if_t (or_t t1)).trans (ret_ret c_ok))]
    have : isCirc n i d = false := by
      cases d <;> first
        | rfl
        | (exact absurd rfl ht)
        | (simp [tyName] at ht)
    rw [this]
    rfl
theorem sim__law_circle : ∀ ds S, Sim S (rf__law_circle ds S) (sp__law_circle ds S) := by
  intro ds S
  unfold sp__law_circle
  split
  · rename_i d i n
    split
    · rename_i hp
      have e := lcircle_ok (n := n.toNat) (i := i.toNat) hp.2.2 (S := S)
      rw [Int.toNat_of_nonneg hp.1, Int.toNat_of_nonneg hp.2.1] at e
      exact simV e (by unfold MP.Below; trivial)
    · trivial
  · trivial
end LawM
end
section
set_option Elab.async false
set_option linter.all false
set_option maxRecDepth 100000
set_option maxHeartbeats 1000000
/-! S4: what follows in a circle; corners. -/
namespace LawM
open PySem PySem.Spec PyProof.Rows L2 MP
theorem getD_idx {c : List Int} {p : Int} (h : p ∈ c) : c.getD (c.idxOf p) 0 = p := by
  rw [List.getD_eq_getElem?_getD, List.getElem?_eq_getElem (idx_lt h)]
  exact List.getElem_idxOf (idx_lt h)
theorem idx_getD {c : List Int} (nd : c.Nodup) {k : Nat} (h : k < c.length) : c.idxOf (c.getD k 0) = k := by
  rw [List.getD_eq_getElem?_getD, List.getElem?_eq_getElem h]
  exact nd.idxOf_getElem k h
theorem getD_mem {c : List Int} {k : Nat} (h : k < c.length) : c.getD k 0 ∈ c := by
  rw [List.getD_eq_getElem?_getD, List.getElem?_eq_getElem h]
  exact List.getElem_mem h
theorem aft_mem {c : List Int} {p : Int} (h : p ∈ c) : aft c p ∈ c := getD_mem (Nat.mod_lt _ (List.length_pos_of_mem h))
theorem ahd_mem {c : List Int} {p : Int} (h : p ∈ c) : ahd c p ∈ c := getD_mem (Nat.mod_lt _ (List.length_pos_of_mem h))
theorem aft_ahd {c : List Int} (nd : c.Nodup) {p : Int} (h : p ∈ c) : aft c (ahd c p) = p := by
  have hl := List.length_pos_of_mem h
  have hi := idx_lt h
  unfold aft
  rw [show c.idxOf (ahd c p) = (c.idxOf p + c.length - 1) % c.length from idx_getD nd (Nat.mod_lt _ hl)]
  rw [Nat.mod_add_mod, show c.idxOf p + c.length - 1 + 1 = c.idxOf p + c.length by omega, Nat.add_mod_right, Nat.mod_eq_of_lt hi, getD_idx h]
theorem ahd_aft {c : List Int} (nd : c.Nodup) {p : Int} (h : p ∈ c) : ahd c (aft c p) = p := by
  have hl := List.length_pos_of_mem h
  have hi := idx_lt h
  unfold ahd
  rw [show c.idxOf (aft c p) = (c.idxOf p + 1) % c.length from idx_getD nd (Nat.mod_lt _ hl)]
  rw [show (c.idxOf p + 1) % c.length + c.length - 1 = (c.idxOf p + 1) % c.length + (c.length - 1) by omega, Nat.mod_add_mod, show c.idxOf p + 1 + (c.length - 1) = c.idxOf p + c.length by omega, Nat.add_mod_right, Nat.mod_eq_of_lt hi, getD_idx h]
/-- one ahead, or the other after it -/
theorem ahd_iff {c : List Int} (nd : c.Nodup) {p q : Int} (h : p ∈ c) : ahd c p = q ↔ q ∈ c ∧ aft c q = p :=
  ⟨fun e => e ▸ ⟨ahd_mem h, aft_ahd nd h⟩, fun e => e.2 ▸ ahd_aft nd e.1⟩
/-! sheets -/
theorem at_some {sh : Sheet} {i : Int} (h : inS sh i) : sh[i.toNat]? = some (at' sh i) := by
  unfold inS at h
  unfold at'
  rw [List.getD_eq_getElem?_getD, List.getElem?_eq_getElem (by omega)]
  rfl
theorem good_at {sh : Sheet} (g : Good sh) {i : Int} (h : inS sh i) : Circ sh.length i.toNat (at' sh i) := g _ _ (at_some h)
theorem nd_at {sh : Sheet} (g : Good sh) {i : Int} (h : inS sh i) : (at' sh i).Nodup := (good_at g h).2.2.2.1
theorem in_of {sh : Sheet} (g : Good sh) {i j : Int} (h : inS sh i) (hj : j ∈ at' sh i) (h0 : 0 ≤ j) : inS sh j := ⟨h0, ((good_at g h).2.1 j hj).2⟩
theorem low_of {sh : Sheet} (g : Good sh) {i j : Int} (h : inS sh i) (hj : j ∈ at' sh i) : -4 ≤ j := ((good_at g h).2.1 j hj).1
theorem back_of {sh : Sheet} (t : Tied sh) {i j : Int} (h : inS sh i) (hj : j ∈ at' sh i) (h0 : 0 ≤ j) : i ∈ at' sh j := by
  have := t i.toNat _ (at_some h) j hj h0
  rwa [Int.toNat_of_nonneg h.1] at this
theorem ix_dsh {sh : Sheet} {i : Int} (h : inS sh i) {S : Sto} : dIx (dsh sh) (.int i) S = some (di (at' sh i), S) := by
  have : dIx (dsh sh) (.int ((i.toNat : Nat) : Int)) S = some (di (at' sh i), S) := ix_tup (by rw [List.getElem?_map, at_some h]; rfl)
  rwa [Int.toNat_of_nonneg h.1] at this
theorem spaft {c : List Int} {p : Int} (h : p ∈ c) {S : Sto} : sp_after [di c, .int p] S = .ok (.int (aft c p)) S := by
  unfold sp_after
  simp only [circOf_di, h, if_true]
theorem spahd {c : List Int} {p : Int} (h : p ∈ c) {S : Sto} : sp_ahead [di c, .int p] S = .ok (.int (ahd c p)) S := by
  unfold sp_ahead
  simp only [circOf_di, h, if_true]
theorem spside {s : Int} (h : -4 ≤ s ∧ s < 0) {S : Sto} : sp_side_after [.int s] S = .ok (.int (sideAf s)) S := by
  unfold sp_side_after
  simp only [h, and_self, if_true]
theorem closes_ok {sh : Sheet} {i j k : Int} (g : Good sh) (t : Tied sh) (hi : inS sh i) (hj : j ∈ at' sh i) (hk : k ∈ at' sh i) {S : Sto} : rf__closes [dsh sh, .int i, .int j, .int k] S = .ok (.bl (closes sh i j k)) S := by
  unfold rf__closes runDef ev__closes closes
  rw [show begins 4 [dsh sh, D.int i, .int j, .int k] = [some (dsh sh), some (.int i), some (.int j), some (.int k)] from rfl]
  have t1 : eTest (eB dLt (eVar 2) (eC (.int 0))) [some (dsh sh), some (.int i), some (.int j), some (.int k)] S = .ok (decide (j < 0)) S := test_ok (lt_ok (var_ok rfl) c_ok)
  have t2 : eTest (eB dLt (eVar 3) (eC (.int 0))) [some (dsh sh), some (.int i), some (.int j), some (.int k)] S = .ok (decide (k < 0)) S := test_ok (lt_ok (var_ok rfl) c_ok)
  have t3 : eTest (eB dGe (eVar 2) (eC (.int 0))) [some (dsh sh), some (.int i), some (.int j), some (.int k)] S = .ok (decide (0 ≤ j)) S := test_ok (ge_ok (var_ok rfl) c_ok)
  have l4 := low_of g hi hj
  by_cases h1 : j < 0 ∧ k < 0
  · rw [if_pos h1]
    have := and_b t1 t2
    rw [decide_eq_true h1.1, decide_eq_true h1.2] at this
    rw [seq_ret ((if_t this).trans (ret_ret (eq_ok (var_ok rfl) ((call1 (var_ok rfl)).trans (spside ⟨l4, h1.1⟩)))))]
    rfl
  · rw [if_neg h1, if_no (and_b t1 t2) (by simp; omega)]
    by_cases h0 : 0 ≤ j
    · have sj := in_of g hi hj h0
      have t4 : eTest (eB dNe (eCall 2 sp_ahead (aCons (eB dIx (eVar 0) (eVar 2)) (aCons (eVar 1) aNil))) (eVar 3)) [some (dsh sh), some (.int i), some (.int j), some (.int k)] S = .ok (!decide (ahd (at' sh j) i = k)) S :=
        test_ok (ne_ok ((call2 (b_ok (var_ok rfl) (var_ok rfl) (ix_dsh sj)) (var_ok rfl)).trans (spahd (back_of t hi hj h0))) (var_ok rfl))
      rw [decide_eq_true h0] at t3
      by_cases h2 : ahd (at' sh j) i = k
      · rw [decide_eq_true h2] at t4
        rw [if_no (and_2 t3 t4) rfl, if_neg (fun z => z.2 h2)]
        by_cases h5 : k < 0
        · rw [ret_ret (eOr_t ((lt_ok (var_ok rfl) c_ok).trans (by rw [decide_eq_true h5])))]
          simp [h5, flowRes]
        · have sk := in_of g hi hk (by omega)
          rw [ret_ret (eOr_f ((lt_ok (var_ok rfl) c_ok).trans (by rw [decide_eq_false h5])) (eq_ok ((call2 (b_ok (var_ok rfl) (var_ok rfl) (ix_dsh sk)) (var_ok rfl)).trans (spaft (back_of t hi hk (by omega)))) (var_ok rfl)))]
          simp [h5, flowRes]
      · rw [decide_eq_false h2] at t4
        rw [seq_ret ((if_t (and_2 t3 t4)).trans (ret_ret c_ok)), if_pos ⟨h0, h2⟩]
        rfl
    · rw [decide_eq_false h0] at t3
      rw [if_no (and_f t3) rfl, if_neg (fun z => h0 z.1)]
      have h5 : ¬ k < 0 := by omega
      have sk := in_of g hi hk (by omega)
      rw [ret_ret (eOr_f ((lt_ok (var_ok rfl) c_ok).trans (by rw [decide_eq_false h5])) (eq_ok ((call2 (b_ok (var_ok rfl) (var_ok rfl) (ix_dsh sk)) (var_ok rfl)).trans (spaft (back_of t hi hk (by omega)))) (var_ok rfl)))]
      simp [h5, flowRes]
theorem sim__closes : ∀ ds S, Sim S (rf__closes ds S) (sp__closes ds S) := by
  intro ds S
  unfold sp__closes
  split
  · split
    · rename_i sh hs
      split
      · rename_i h
        rw [shOf_eq hs]
        exact simV (closes_ok h.1 h.2.1 h.2.2.1 h.2.2.2.1 h.2.2.2.2) (by unfold MP.Below; trivial)
      · trivial
    · trivial
  · trivial
/-! the law's corner -/
theorem sides4 {s : Int} (h : -4 ≤ s ∧ s < 0) : s = -4 ∨ s = -3 ∨ s = -2 ∨ s = -1 := by omega
theorem lst4 {a b c d : Int} {ρ : MP.Env} {S : Sto} : eLst (aCons (eU dNeg (eC (.int a))) (aCons (eU dNeg (eC (.int b))) (aCons (eU dNeg (eC (.int c))) (aCons (eU dNeg (eC (.int d))) aNil)))) ρ S = .ok (.lst S.length) (S ++ [[.int (-a), .int (-b), .int (-c), .int (-d)]]) := by
  simp [eLst, eL, aCons, aNil, eU, eC, dNeg, dLst_ok]
theorem side_ix {s : Int} (h : -4 ≤ s ∧ s < 0) {i : Nat} {ρ : MP.Env} {S : Sto} (hs : ρ[i]? = some (some (.int s))) : eB dIx (eLst (aCons (eU dNeg (eC (.int 3))) (aCons (eU dNeg (eC (.int 2))) (aCons (eU dNeg (eC (.int 1))) (aCons (eU dNeg (eC (.int 4))) aNil))))) (eB dAdd (eVar i) (eC (.int 4))) ρ S = .ok (.int (sideAf s)) (S ++ [[.int (-3), .int (-2), .int (-1), .int (-4)]]) := by
  refine b_ok lst4 (add_ok (var_ok hs) c_ok) ?_
  rcases sides4 h with rfl | rfl | rfl | rfl
  · exact ix_lst (k := 0) (xs := [.int (-3), .int (-2), .int (-1), .int (-4)]) (by simp) rfl
  · exact ix_lst (k := 1) (xs := [.int (-3), .int (-2), .int (-1), .int (-4)]) (by simp) rfl
  · exact ix_lst (k := 2) (xs := [.int (-3), .int (-2), .int (-1), .int (-4)]) (by simp) rfl
  · exact ix_lst (k := 3) (xs := [.int (-3), .int (-2), .int (-1), .int (-4)]) (by simp) rfl
theorem splaft {c : List Int} {p : Int} (h : p ∈ c) {S : Sto} : sp__law_after [di c, .int p] S = .ok (.int (aft c p)) S := spaft h
theorem splahd {c : List Int} {p : Int} (h : p ∈ c) {S : Sto} : sp__law_ahead [di c, .int p] S = .ok (.int (ahd c p)) S := spahd h
theorem corner_ok {sh : Sheet} {i j k : Int} (g : Good sh) (t : Tied sh) (hi : inS sh i) (hj : j ∈ at' sh i) (hk : k ∈ at' sh i) {S : Sto} : ∃ G, rf__law_corner [dsh sh, .int i, .int j, .int k] S = .ok (.bl (closes sh i j k)) (S ++ G) := by
  unfold rf__law_corner runDef ev__law_corner closes
  rw [show begins 4 [dsh sh, D.int i, .int j, .int k] = [some (dsh sh), some (.int i), some (.int j), some (.int k)] from rfl]
  have t1 : eTest (eB dLt (eVar 2) (eC (.int 0))) [some (dsh sh), some (.int i), some (.int j), some (.int k)] S = .ok (decide (j < 0)) S := test_ok (lt_ok (var_ok rfl) c_ok)
  have t2 : eTest (eB dLt (eVar 3) (eC (.int 0))) [some (dsh sh), some (.int i), some (.int j), some (.int k)] S = .ok (decide (k < 0)) S := test_ok (lt_ok (var_ok rfl) c_ok)
  have t3 : eTest (eB dGe (eVar 2) (eC (.int 0))) [some (dsh sh), some (.int i), some (.int j), some (.int k)] S = .ok (decide (0 ≤ j)) S := test_ok (ge_ok (var_ok rfl) c_ok)
  have t6 : eTest (eB dGe (eVar 3) (eC (.int 0))) [some (dsh sh), some (.int i), some (.int j), some (.int k)] S = .ok (decide (0 ≤ k)) S := test_ok (ge_ok (var_ok rfl) c_ok)
  have l4 := low_of g hi hj
  by_cases h1 : j < 0 ∧ k < 0
  · rw [if_pos h1]
    have := and_b t1 t2
    rw [decide_eq_true h1.1, decide_eq_true h1.2] at this
    rw [seq_ret ((if_t this).trans (ret_ret (eq_ok (var_ok rfl) (side_ix ⟨l4, h1.1⟩ rfl))))]
    exact ⟨_, rfl⟩
  · rw [if_neg h1, if_no (and_b t1 t2) (by simp; omega)]
    refine ⟨[], ?_⟩
    rw [List.append_nil]
    have last : (¬ k < 0 ∨ 0 ≤ k → True) → flowRes (sSeq (sIf (eTest (eB dGe (eVar 3) (eC (.int 0)))) (sRet (eB dEq (eCall 2 sp__law_after (aCons (eB dIx (eVar 0) (eVar 3)) (aCons (eVar 1) aNil))) (eVar 2))) sSkip) (sRet (eC (.bl true))) [some (dsh sh), some (.int i), some (.int j), some (.int k)] S) = .ok (.bl (decide (k < 0) || decide (aft (at' sh k) i = j))) S := fun _ => by
      by_cases h5 : k < 0
      · rw [decide_eq_false (by omega)] at t6
        rw [if_no t6 rfl, ret_ret c_ok]
        simp [h5, flowRes]
      · have sk := in_of g hi hk (by omega)
        rw [decide_eq_true (by omega)] at t6
        rw [seq_ret ((if_t t6).trans (ret_ret (eq_ok ((call2 (b_ok (var_ok rfl) (var_ok rfl) (ix_dsh sk)) (var_ok rfl)).trans (splaft (back_of t hi hk (by omega)))) (var_ok rfl))))]
        simp [h5, flowRes]
    by_cases h0 : 0 ≤ j
    · have sj := in_of g hi hj h0
      have bj := back_of t hi hj h0
      have ej : eB dIx (eVar 0) (eVar 2) [some (dsh sh), some (.int i), some (.int j), some (.int k)] S = .ok (di (at' sh j)) S := b_ok (var_ok rfl) (var_ok rfl) (ix_dsh sj)
      have t4 : eTest (eB dNotIn (eVar 3) (eB dIx (eVar 0) (eVar 2))) [some (dsh sh), some (.int i), some (.int j), some (.int k)] S = .ok (!decide (k ∈ at' sh j)) S := test_ok (b_ok (var_ok rfl) ej notIn_tup)
      rw [decide_eq_true h0] at t3
      have key := ahd_iff (nd_at g sj) (q := k) bj
      by_cases h2 : k ∈ at' sh j
      · rw [decide_eq_true h2] at t4
        have t5 : eTest (eB dNe (eCall 2 sp__law_after (aCons (eB dIx (eVar 0) (eVar 2)) (aCons (eVar 3) aNil))) (eVar 1)) [some (dsh sh), some (.int i), some (.int j), some (.int k)] S = .ok (!decide (aft (at' sh j) k = i)) S :=
          test_ok (ne_ok ((call2 ej (var_ok rfl)).trans (splaft h2)) (var_ok rfl))
        by_cases h3 : aft (at' sh j) k = i
        · rw [decide_eq_true h3] at t5
          rw [if_neg (fun z => z.2 (key.mpr ⟨h2, h3⟩)), seq_next ((if_t t3).trans (if_s (or_b t4 t5)))]
          exact last fun _ => trivial
        · rw [decide_eq_false h3] at t5
          rw [if_pos ⟨h0, fun z => h3 (key.mp z).2⟩, seq_ret ((if_t t3).trans ((if_t (or_b t4 t5)).trans (ret_ret c_ok)))]
          rfl
      · rw [decide_eq_false h2] at t4
        rw [if_pos ⟨h0, fun z => h2 (key.mp z).1⟩, seq_ret ((if_t t3).trans ((if_t (or_t t4)).trans (ret_ret c_ok)))]
        rfl
    · rw [decide_eq_false h0] at t3
      rw [if_no t3 rfl, if_neg (fun z => h0 z.1)]
      exact last fun _ => trivial
theorem sim__law_corner : ∀ ds S, Sim S (rf__law_corner ds S) (sp__law_corner ds S) := by
  intro ds S
  unfold sp__law_corner sp__closes
  split
  · split
    · rename_i sh hs
      split
      · rename_i h
        rw [shOf_eq hs]
        obtain ⟨G, e⟩ := corner_ok h.1 h.2.1 h.2.2.1 h.2.2.2.1 h.2.2.2.2
        exact Sim.val e (by unfold MP.Below; trivial)
      · trivial
    · trivial
  · trivial
end LawM
end
section
set_option Elab.async false
set_option linter.all false
set_option maxRecDepth 100000
set_option maxHeartbeats 1000000
/-! S5: loops that look for the first; ties and faces. -/
namespace LawM
open PySem PySem.Spec PyProof.Rows L2 MP
def Stop (F : MP.Flow) : Prop := (∃ d S, F = .ret d S) ∨ ∃ n ns ds ρ S, F = .exc n ns ds ρ S
theorem seq_stop {a b : Es} {ρ : MP.Env} {S : Sto} (h : Stop (a ρ S)) : sSeq a b ρ S = a ρ S := by
  rcases h with ⟨d, S', h⟩ | ⟨n, ns, ds, ρ', S', h⟩
  · rw [seq_ret h, h]
  · rw [seq_exc h, h]
theorem for_stop {st : Sto → Prop} {b : D → MP.Env → Option MP.Env} {body : Es} {x : D} {xs : List D} {ρ ρ1 : MP.Env} {S : Sto} (hs : st S) (hb : b x ρ = some ρ1) (h : Stop (body ρ1 S)) : forLoop st b body (x :: xs) ρ S = body ρ1 S := by
  rw [forLoop]
  simp only [hs, if_true, hb]
  rcases h with ⟨d, S', h⟩ | ⟨n, ns, ds, ρ', S', h⟩
  · rw [h]
  · rw [h]
theorem for_sel {α β : Type} {st : Sto → Prop} {b : D → MP.Env → Option MP.Env} {body : Es} (m : α → D) (sel : α → Option β) (E : MP.Env → Prop) (R : β → MP.Flow → Prop) {S : Sto} (hst : ∀ G, st (S ++ G)) : ∀ (zs : List α),
    (∀ z ∈ zs, ∀ ρ G, E ρ → ∃ ρ1, b (m z) ρ = some ρ1 ∧ (sel z = none → ∃ ρ2 G2, body ρ1 (S ++ G) = .next ρ2 (S ++ G2) ∧ E ρ2) ∧ ∀ w, sel z = some w → Stop (body ρ1 (S ++ G)) ∧ R w (body ρ1 (S ++ G))) →
    ∀ ρ G, E ρ → (zs.findSome? sel = none → ∃ ρ2 G2, forLoop st b body (zs.map m) ρ (S ++ G) = .next ρ2 (S ++ G2) ∧ E ρ2) ∧ ∀ w, zs.findSome? sel = some w → Stop (forLoop st b body (zs.map m) ρ (S ++ G)) ∧ R w (forLoop st b body (zs.map m) ρ (S ++ G))
  | [], _, ρ, G, hE => ⟨fun _ => ⟨ρ, G, for_nil (hst G), hE⟩, fun w h => by cases h⟩
  | z :: zs, h, ρ, G, hE => by
    have ih := for_sel m sel E R hst zs fun y hy => h y (List.mem_cons_of_mem _ hy)
    obtain ⟨ρ1, h1, h2, h3⟩ := h z List.mem_cons_self ρ G hE
    rw [List.map_cons, List.findSome?_cons]
    cases hz : sel z with
    | none =>
      obtain ⟨ρ2, G2, e, hE2⟩ := h2 hz
      rw [for_cons (hst G) h1 e]
      exact ih ρ2 G2 hE2
    | some w =>
      obtain ⟨k1, k2⟩ := h3 w hz
      rw [for_stop (hst G) h1 k1]
      exact ⟨fun q => (by cases q), fun w' q => by cases q; exact ⟨k1, k2⟩⟩
theorem sel_find {α : Type} {p : α → Bool} : ∀ l : List α, l.findSome? (fun z => if p z = true then some z else none) = l.find? p
  | [] => rfl
  | z :: l => by
    rw [List.findSome?_cons, List.find?_cons, sel_find l]
    cases p z <;> rfl
theorem for_find {α : Type} {st : Sto → Prop} {b : D → MP.Env → Option MP.Env} {body : Es} (m : α → D) (bad : α → Bool) (E : MP.Env → Prop) (R : α → MP.Flow → Prop) {S : Sto} (hst : ∀ G, st (S ++ G)) (zs : List α)
    (h : ∀ z ∈ zs, ∀ ρ G, E ρ → ∃ ρ1, b (m z) ρ = some ρ1 ∧ (bad z = false → ∃ ρ2 G2, body ρ1 (S ++ G) = .next ρ2 (S ++ G2) ∧ E ρ2) ∧ (bad z = true → Stop (body ρ1 (S ++ G)) ∧ R z (body ρ1 (S ++ G))))
    (ρ : MP.Env) (G : Sto) (hE : E ρ) : (zs.find? bad = none → ∃ ρ2 G2, forLoop st b body (zs.map m) ρ (S ++ G) = .next ρ2 (S ++ G2) ∧ E ρ2) ∧ ∀ w, zs.find? bad = some w → Stop (forLoop st b body (zs.map m) ρ (S ++ G)) ∧ R w (forLoop st b body (zs.map m) ρ (S ++ G)) := by
  have := for_sel (st := st) (b := b) (body := body) m (fun z => if bad z = true then some z else none) E R hst zs (fun z hz ρ G hE => by
    obtain ⟨ρ1, h1, h2, h3⟩ := h z hz ρ G hE
    refine ⟨ρ1, h1, fun q => h2 ?_, fun w q => ?_⟩
    · cases e : bad z with
      | false => rfl
      | true => rw [e] at q; cases q
    · cases e : bad z with
      | false => rw [e] at q; cases q
      | true =>
        rw [e] at q
        cases q
        exact h3 e) ρ G hE
  rwa [sel_find] at this
theorem enuD_zip : ∀ (xs : List D) (k : Nat), enuD k xs = (xs.zipIdx k).map fun p => D.wk [.int p.2, p.1]
  | [], _ => rfl
  | x :: xs, k => by
    rw [enuD, enuD_zip xs (k + 1)]
    rfl
theorem enu_sh (sh : Sheet) : enuD 0 (sh.map di) = sh.zipIdx.map fun p => D.wk [.int p.2, di p.1] := by
  rw [enuD_zip, List.zipIdx_map]
  simp
theorem rng_sh (sh : Sheet) : rngL 0 sh.length = sh.zipIdx.map fun p => D.int p.2 := by
  apply List.ext_getElem?
  intro i
  rw [List.getElem?_map, List.getElem?_zipIdx]
  rcases Nat.lt_or_ge i sh.length with h | h
  · rw [List.getElem?_eq_getElem h]
    have : i < (rngL 0 sh.length).length := by rw [rngL_length]; exact h
    obtain ⟨_, e⟩ := rng_at (List.getElem?_eq_getElem this)
    rw [List.getElem?_eq_getElem this, e]
    simp
  · rw [List.getElem?_eq_none h, List.getElem?_eq_none (by rw [rngL_length]; exact h)]
    rfl
theorem forE {e : Ev} {ρ : MP.Env} {S S1 : Sto} {xs : List D} {b : D → MP.Env → Option MP.Env} {body : Es} {F : MP.Flow} (he : e ρ S = .ok (.tup xs) S1) (h : forLoop (fun _ => True) b body (enuD 0 xs) ρ S1 = F) : sFor (iRange enuS (aCons e aNil)) b body ρ S = F := by
  unfold sFor iRange
  rw [args1 he, Res.bind_ok]
  show ofRes (.ok _ S1) ρ _ = F
  rw [ofRes_ok]
  exact h
theorem forT {e : Ev} {ρ : MP.Env} {S S1 : Sto} {xs : List D} {b : D → MP.Env → Option MP.Env} {body : Es} {F : MP.Flow} (he : e ρ S = .ok (.tup xs) S1) (h : forLoop (fun _ => True) b body xs ρ S1 = F) : sFor (iSeq e) b body ρ S = F := by
  unfold sFor iSeq srcOf
  rw [he, Res.bind_ok]
  show ofRes (.ok _ S1) ρ _ = F
  rw [ofRes_ok]
  exact h
theorem raise2 {n f1 f2 : Str} {e1 e2 : Ev} {ρ : MP.Env} {S S1 S2 : Sto} {x y : D} (h1 : e1 ρ S = .ok x S1) (h2 : e2 ρ S1 = .ok y S2) : sRaise n [f1, f2] (aCons e1 (aCons e2 aNil)) ρ S = .exc n [f2, f1] [y, x] ρ S2 := by
  unfold sRaise aCons aNil
  simp [h1, h2]
theorem tup_2 {e1 e2 : Ev} {ρ : MP.Env} {S S1 S2 : Sto} {x y : D} (h1 : e1 ρ S = .ok x S1) (h2 : e2 ρ S1 = .ok y S2) : eTup (aCons e1 (aCons e2 aNil)) ρ S = .ok (.tup [x, y]) S2 := by
  unfold eTup eL aCons aNil
  simp [h1, h2, dTup_ok]
theorem zip_at {sh : Sheet} {z : List Int × Nat} (h : z ∈ sh.zipIdx) : inS sh z.2 ∧ at' sh z.2 = z.1 := by
  have h1 := List.mk_mem_zipIdx_iff_getElem?.mp (show (z.1, z.2) ∈ sh.zipIdx from h)
  have h2 := (List.getElem?_eq_some_iff.mp h1).1
  refine ⟨⟨by omega, by omega⟩, ?_⟩
  unfold at'
  rw [Int.toNat_natCast, List.getD_eq_getElem?_getD, h1]
  rfl
def prs (z : List Int × Nat) : List (Int × Int) := z.1.map fun j => ((z.2 : Int), j)
theorem prs_map (z : List Int × Nat) : (prs z).map (fun q => D.int q.2) = z.1.map D.int := by
  unfold prs
  rw [List.map_map]
  rfl
theorem prs_mem {z : List Int × Nat} {q : Int × Int} (h : q ∈ prs z) : q.1 = z.2 ∧ q.2 ∈ z.1 := by
  unfold prs at h
  obtain ⟨j, hj, rfl⟩ := List.mem_map.mp h
  exact ⟨rfl, hj⟩
theorem pairs_find {sh : Sheet} {bad : Int × Int → Bool} : (pairs sh).find? bad = sh.zipIdx.findSome? fun z => (prs z).find? bad := by
  unfold pairs
  rw [List.find?_flatMap]
  rfl
/-- all places of all circles, one after the other -/
theorem for_prs {sh : Sheet} {st : Sto → Prop} {b : D → MP.Env → Option MP.Env} {e : Ev} {v : Nat} {inner : Es} (mo : List Int × Nat → D) (bad : Int × Int → Bool) (E : MP.Env → Prop) (E2 : List Int × Nat → MP.Env → Prop) (R : Int × Int → MP.Flow → Prop) {S : Sto} (hst : ∀ G, st (S ++ G))
    (hb : ∀ z ∈ sh.zipIdx, ∀ ρ, E ρ → ∃ ρ1, b (mo z) ρ = some ρ1 ∧ E2 z ρ1) (he : ∀ z ∈ sh.zipIdx, ∀ ρ G, E2 z ρ → e ρ (S ++ G) = .ok (di z.1) (S ++ G)) (hE : ∀ z ρ, E2 z ρ → E ρ)
    (hin : ∀ z ∈ sh.zipIdx, ∀ j ∈ z.1, ∀ ρ G, E2 z ρ → (bad (z.2, j) = false → ∃ ρ2 G2, inner (ρ.set v (some (.int j))) (S ++ G) = .next ρ2 (S ++ G2) ∧ E2 z ρ2) ∧ (bad (z.2, j) = true → Stop (inner (ρ.set v (some (.int j))) (S ++ G)) ∧ R (z.2, j) (inner (ρ.set v (some (.int j))) (S ++ G))))
    (ρ : MP.Env) (G : Sto) (h0 : E ρ) : ((pairs sh).find? bad = none → ∃ ρ2 G2, forLoop st b (sFor (iSeq e) (bName v) inner) (sh.zipIdx.map mo) ρ (S ++ G) = .next ρ2 (S ++ G2) ∧ E ρ2) ∧ ∀ w, (pairs sh).find? bad = some w → Stop (forLoop st b (sFor (iSeq e) (bName v) inner) (sh.zipIdx.map mo) ρ (S ++ G)) ∧ R w (forLoop st b (sFor (iSeq e) (bName v) inner) (sh.zipIdx.map mo) ρ (S ++ G)) := by
  rw [pairs_find]
  refine for_sel mo (fun z => (prs z).find? bad) E R hst sh.zipIdx (fun z hz ρ G hE0 => ?_) ρ G h0
  obtain ⟨ρ1, h1, h2⟩ := hb z hz ρ hE0
  refine ⟨ρ1, h1, ?_⟩
  rw [forT (xs := z.1.map D.int) (he z hz ρ1 G h2) rfl, ← prs_map z]
  have key2 := for_find (st := fun _ => True) (b := bName v) (body := inner) (fun q : Int × Int => D.int q.2) bad (E2 z) R (S := S) (fun _ => trivial) (prs z) (fun q hq ρ G hE => by
    obtain ⟨q1, q2⟩ := prs_mem hq
    obtain ⟨i, j⟩ := q
    have q1 : i = (z.2 : Int) := q1
    subst q1
    exact ⟨_, rfl, hin z hz j q2 ρ G hE⟩) ρ1 G h2
  refine ⟨fun hn => ?_, fun w hw => key2.2 w hw⟩
  obtain ⟨ρ2, G2, e, hE2⟩ := key2.1 hn
  exact ⟨ρ2, G2, e, hE z ρ2 hE2⟩
def RexP (w : Str) (S : Sto) (p : Int × Int) (F : MP.Flow) : Prop := ∃ ρ G, F = .exc "InvalidPaper" ["at", "word"] [.tup [.int p.1, .int p.2], .str w] ρ (S ++ G)
theorem tie_t {sh : Sheet} (g : Good sh) {i j : Int} (hi : inS sh i) (hj : j ∈ at' sh i) {a b c : Nat} {ρ : MP.Env} {S : Sto} (ha : ρ[a]? = some (some (.int i))) (hb : ρ[b]? = some (some (.int j))) (hc : ρ[c]? = some (some (dsh sh))) :
    eAndT (eTest (eB dGe (eVar b) (eC (.int 0)))) (eTest (eB dNotIn (eVar a) (eB dIx (eVar c) (eVar b)))) ρ S = .ok (tieBad sh (i, j)) S := by
  have t1 : eTest (eB dGe (eVar b) (eC (.int 0))) ρ S = .ok (decide (0 ≤ j)) S := test_ok (ge_ok (var_ok hb) c_ok)
  unfold tieBad
  by_cases h0 : 0 ≤ j
  · rw [decide_eq_true h0] at t1
    rw [and_2 t1 (test_ok (b_ok (var_ok ha) (b_ok (var_ok hc) (var_ok hb) (ix_dsh (in_of g hi hj h0))) notIn_tup))]
    simp [h0]
  · rw [decide_eq_false h0] at t1
    rw [and_f t1]
    simp [h0]
theorem ck_ties {sh : Sheet} (g : Good sh) {S : Sto} : ∃ G, rf__check_ties [dsh sh] S = (match (pairs sh).find? (tieBad sh) with
      | some p => .exc "InvalidPaper" ["at", "word"] [(badAt "tie" p).2, .str "tie"] (S ++ G)
      | none => .ok .non (S ++ G)) := by
  unfold rf__check_ties runDef ev__check_ties
  rw [show begins 4 [dsh sh] = [some (dsh sh), none, none, none] from rfl]
  have key := for_prs (sh := sh) (st := fun _ => True) (b := bTup 2 (bCons (bName 1) (bCons (bName 2) bNil))) (e := eVar 2) (v := 3) (inner := (sIf (eAndT (eTest (eB dGe (eVar 3) (eC (.int 0)))) (eTest (eB dNotIn (eVar 1) (eB dIx (eVar 0) (eVar 3)))))
 (sRaise "InvalidPaper" ["word", "at"] (aCons (eC (.str "tie")) (aCons (eTup (aCons (eVar 1) (aCons (eVar 3) aNil))) aNil)))
 sSkip)) (fun p => D.wk [.int p.2, di p.1]) (tieBad sh) (fun ρ => ∃ a b c, ρ = [some (dsh sh), a, b, c]) (fun z ρ => ∃ c, ρ = [some (dsh sh), some (.int z.2), some (di z.1), c]) (RexP "tie" S) (S := S) (fun _ => trivial)
    (fun z hz ρ hE => by
      obtain ⟨a, b, c, rfl⟩ := hE
      exact ⟨_, rfl, _, rfl⟩) (fun z hz ρ G hE => by
      obtain ⟨c, rfl⟩ := hE
      exact var_ok rfl) (fun z ρ hE => by
      obtain ⟨c, rfl⟩ := hE
      exact ⟨_, _, _, rfl⟩) (fun z hz j hj ρ G hE => by
      obtain ⟨c, rfl⟩ := hE
      obtain ⟨hi, ha⟩ := zip_at hz
      simp only [List.set_cons_zero, List.set_cons_succ]
      have hj' : j ∈ at' sh z.2 := by rw [ha]; exact hj
      have t2 := tie_t g hi hj' (a := 1) (b := 3) (c := 0) (ρ := [some (dsh sh), some (.int z.2), some (di z.1), some (.int j)]) (S := S ++ G) rfl rfl rfl
      refine ⟨fun hb => ?_, fun hb => ?_⟩
      · rw [hb] at t2
        exact ⟨_, G, if_s t2, _, rfl⟩
      · rw [hb] at t2
        rw [(if_t t2).trans (raise2 c_ok (tup_2 (var_ok rfl) (var_ok rfl)))]
        exact ⟨.inr ⟨_, _, _, _, _, rfl⟩, _, _, rfl⟩) [some (dsh sh), none, none, none] [] ⟨_, _, _, rfl⟩
  rw [List.append_nil] at key
  rw [forE (xs := sh.map di) (var_ok rfl) rfl, enu_sh]
  cases hf : (pairs sh).find? (tieBad sh) with
  | none =>
    obtain ⟨ρ2, G2, e, _⟩ := key.1 hf
    rw [e]
    exact ⟨G2, rfl⟩
  | some p =>
    obtain ⟨_, ρ, G, e⟩ := key.2 p hf
    rw [e]
    exact ⟨G, rfl⟩
theorem sim__check_ties : ∀ ds S, Sim S (rf__check_ties ds S) (sp__check_ties ds S) := by
  intro ds S
  unfold sp__check_ties
  split
  · split
    · rename_i sh hs
      split
      · rename_i h
        rw [shOf_eq hs]
        obtain ⟨G, e⟩ := ck_ties h.1 (S := S)
        split at e
        · rename_i p hp
          try simp only [hp]
          exact Sim.exc e (by simp [badAt, MP.Below, MP.BelowL])
        · rename_i hp
          try simp only [hp]
          exact Sim.val e (by unfold MP.Below; trivial)
      · trivial
    · trivial
  · trivial
theorem spclo {sh : Sheet} {i j k : Int} (g : Good sh) (t : Tied sh) (hi : inS sh i) (hj : j ∈ at' sh i) (hk : k ∈ at' sh i) {S : Sto} : sp__closes [dsh sh, .int i, .int j, .int k] S = .ok (.bl (closes sh i j k)) S := by
  unfold sp__closes
  simp only [shOf_dsh, g, t, hi, hj, hk, and_self, if_true]
theorem splco {sh : Sheet} {i j k : Int} (g : Good sh) (t : Tied sh) (hi : inS sh i) (hj : j ∈ at' sh i) (hk : k ∈ at' sh i) {S : Sto} : sp__law_corner [dsh sh, .int i, .int j, .int k] S = .ok (.bl (closes sh i j k)) S := spclo g t hi hj hk
theorem ck_faces {sh : Sheet} (g : Good sh) (t : Tied sh) {S : Sto} : ∃ G, rf__check_faces [dsh sh] S = (match (pairs sh).find? (faceBad sh) with
      | some p => .exc "InvalidPaper" ["at", "word"] [(badAt "face" p).2, .str "face"] (S ++ G)
      | none => .ok .non (S ++ G)) := by
  unfold rf__check_faces runDef ev__check_faces
  rw [show begins 4 [dsh sh] = [some (dsh sh), none, none, none] from rfl]
  have key := for_prs (sh := sh) (st := fun _ => True) (b := bTup 2 (bCons (bName 1) (bCons (bName 2) bNil))) (e := eVar 2) (v := 3) (inner := (sIf (eNotT (eTest (eCall 4 sp__closes (aCons (eVar 0) (aCons (eVar 1) (aCons (eVar 3) (aCons (eCall 2 sp_after (aCons (eVar 2) (aCons (eVar 3) aNil))) aNil)))))))
 (sRaise "InvalidPaper" ["word", "at"] (aCons (eC (.str "face")) (aCons (eTup (aCons (eVar 1) (aCons (eVar 3) aNil))) aNil)))
 sSkip)) (fun p => D.wk [.int p.2, di p.1]) (faceBad sh) (fun ρ => ∃ a b c, ρ = [some (dsh sh), a, b, c]) (fun z ρ => ∃ c, ρ = [some (dsh sh), some (.int z.2), some (di z.1), c]) (RexP "face" S) (S := S) (fun _ => trivial)
    (fun z hz ρ hE => by
      obtain ⟨a, b, c, rfl⟩ := hE
      exact ⟨_, rfl, _, rfl⟩) (fun z hz ρ G hE => by
      obtain ⟨c, rfl⟩ := hE
      exact var_ok rfl) (fun z ρ hE => by
      obtain ⟨c, rfl⟩ := hE
      exact ⟨_, _, _, rfl⟩) (fun z hz j hj ρ G hE => by
      obtain ⟨c, rfl⟩ := hE
      obtain ⟨hi, ha⟩ := zip_at hz
      simp only [List.set_cons_zero, List.set_cons_succ]
      have hj' : j ∈ at' sh z.2 := by rw [ha]; exact hj
      have t2 : eNotT (eTest (eCall 4 sp__closes (aCons (eVar 0) (aCons (eVar 1) (aCons (eVar 3) (aCons (eCall 2 sp_after (aCons (eVar 2) (aCons (eVar 3) aNil))) aNil)))))) [some (dsh sh), some (.int z.2), some (di z.1), some (.int j)] (S ++ G) = .ok (faceBad sh (z.2, j)) (S ++ G) := by
        unfold faceBad
        refine not_b (test_ok ((call4 (var_ok rfl) (var_ok rfl) (var_ok rfl) ((call2 (var_ok rfl) (var_ok rfl)).trans (spaft hj))).trans ?_))
        rw [← ha]
        exact spclo g t hi hj' (aft_mem hj')
      refine ⟨fun hb => ?_, fun hb => ?_⟩
      · rw [hb] at t2
        exact ⟨_, G, if_s t2, _, rfl⟩
      · rw [hb] at t2
        rw [(if_t t2).trans (raise2 c_ok (tup_2 (var_ok rfl) (var_ok rfl)))]
        exact ⟨.inr ⟨_, _, _, _, _, rfl⟩, _, _, rfl⟩) [some (dsh sh), none, none, none] [] ⟨_, _, _, rfl⟩
  rw [List.append_nil] at key
  rw [forE (xs := sh.map di) (var_ok rfl) rfl, enu_sh]
  cases hf : (pairs sh).find? (faceBad sh) with
  | none =>
    obtain ⟨ρ2, G2, e, _⟩ := key.1 hf
    rw [e]
    exact ⟨G2, rfl⟩
  | some p =>
    obtain ⟨_, ρ, G, e⟩ := key.2 p hf
    rw [e]
    exact ⟨G, rfl⟩
theorem sim__check_faces : ∀ ds S, Sim S (rf__check_faces ds S) (sp__check_faces ds S) := by
  intro ds S
  unfold sp__check_faces
  split
  · split
    · rename_i sh hs
      split
      · rename_i h
        rw [shOf_eq hs]
        obtain ⟨G, e⟩ := ck_faces h.1 h.2.1 (S := S)
        split at e
        · rename_i p hp
          try simp only [hp]
          exact Sim.exc e (by simp [badAt, MP.Below, MP.BelowL])
        · rename_i hp
          try simp only [hp]
          exact Sim.val e (by unfold MP.Below; trivial)
      · trivial
    · trivial
  · trivial
end LawM
end
section
set_option Elab.async false
set_option linter.all false
set_option maxRecDepth 100000
set_option maxHeartbeats 1000000
/-! S6: the row of a side: plain law. -/
namespace LawM
open PySem PySem.Spec PyProof.Rows L2 MP
def stp (sh : Sheet) (s : Int) (i : Int) : Int := ahd (at' sh i) s
def orb (sh : Sheet) (s : Int) (i0 : Int) : Nat → Int
  | 0 => i0
  | k + 1 => stp sh s (orb sh s i0 k)
def alive (sh : Sheet) (s i0 : Int) (k : Nat) : Prop := ∀ m, m < k → 0 ≤ orb sh s i0 (m + 1)
theorem mem_pairs {sh : Sheet} {i j : Int} (hi : inS sh i) (hj : j ∈ at' sh i) : (i, j) ∈ pairs sh := by
  unfold pairs
  rw [List.mem_flatMap]
  refine ⟨(at' sh i, i.toNat), List.mk_mem_zipIdx_iff_getElem?.mpr (at_some hi), List.mem_map.mpr ⟨j, hj, ?_⟩⟩
  show ((i.toNat : Int), j) = (i, j)
  rw [Int.toNat_of_nonneg hi.1]
theorem face_at {sh : Sheet} (f : Faced sh) {i j : Int} (hi : inS sh i) (hj : j ∈ at' sh i) : closes sh i j (aft (at' sh i) j) = true := by
  have := f _ (mem_pairs hi hj)
  unfold faceBad at this
  simpa using this
section
variable {sh : Sheet} {s i0 : Int} (g : Good sh) (t : Tied sh) (f : Faced sh) (hs : -4 ≤ s ∧ s < 0)
include g t f hs
theorem stp_pos {i : Int} (hi : inS sh i) (h : s ∈ at' sh i) (h0 : 0 ≤ stp sh s i) : inS sh (stp sh s i) ∧ s ∈ at' sh (stp sh s i) ∧ aft (at' sh (stp sh s i)) s = i := by
  have hj : stp sh s i ∈ at' sh i := ahd_mem h
  have c := face_at f hi hj
  rw [show aft (at' sh i) (stp sh s i) = s from aft_ahd (nd_at g hi) h] at c
  have sj := in_of g hi hj h0
  unfold closes at c
  rw [if_neg (by omega)] at c
  by_cases e : ahd (at' sh (stp sh s i)) i = s
  · exact ⟨sj, (ahd_iff (nd_at g sj) (back_of t hi hj h0)).mp e⟩
  · rw [if_pos ⟨h0, e⟩] at c
    cases c
theorem stp_neg {i : Int} (hi : inS sh i) (h : s ∈ at' sh i) (h0 : stp sh s i < 0) : sideAf (stp sh s i) = s ∧ -4 ≤ stp sh s i := by
  have hj : stp sh s i ∈ at' sh i := ahd_mem h
  have c := face_at f hi hj
  rw [show aft (at' sh i) (stp sh s i) = s from aft_ahd (nd_at g hi) h] at c
  unfold closes at c
  rw [if_pos ⟨h0, hs.2⟩] at c
  exact ⟨(of_decide_eq_true c).symm, low_of g hi hj⟩
variable (hi : inS sh i0) (h : s ∈ at' sh i0)
include hi h
theorem orb_in : ∀ k, alive sh s i0 k → inS sh (orb sh s i0 k) ∧ s ∈ at' sh (orb sh s i0 k)
  | 0, _ => ⟨hi, h⟩
  | k + 1, a => by
    obtain ⟨h1, h2⟩ := orb_in k fun m hm => a m (by omega)
    obtain ⟨q1, q2, _⟩ := stp_pos g t f hs h1 h2 (a k (by omega))
    exact ⟨q1, q2⟩
theorem orb_back {k : Nat} (a : alive sh s i0 (k + 1)) : aft (at' sh (orb sh s i0 (k + 1))) s = orb sh s i0 k := by
  obtain ⟨h1, h2⟩ := orb_in g t f hs hi h k fun m hm => a m (by omega)
  exact (stp_pos g t f hs h1 h2 (a k (by omega))).2.2
variable (hh : aft (at' sh i0) s = sideAf s)
include hh
theorem orb_ne : ∀ (m k : Nat), m < k → alive sh s i0 k → orb sh s i0 m ≠ orb sh s i0 k
  | m, 0, hm, _ => by omega
  | 0, k + 1, _, a => fun e => by
    have b := orb_back g t f hs hi h a
    rw [← e] at b
    have b : aft (at' sh i0) s = orb sh s i0 k := b
    have := (orb_in g t f hs hi h k fun m hm => a m (by omega)).1.1
    rw [hh] at b
    unfold sideAf at b
    split at b <;> omega
  | m + 1, k + 1, hm, a => fun e => by
    have b := orb_back g t f hs hi h a
    have b2 := orb_back g t f hs hi h (k := m) fun m hm => a m (by omega)
    rw [e, b] at b2
    exact orb_ne m k (by omega) (fun m hm => a m (by omega)) b2.symm
theorem orb_nd {k : Nat} (a : alive sh s i0 k) : ((List.range (k + 1)).map (orb sh s i0)).Nodup := by
  rw [List.nodup_iff_pairwise_ne, List.pairwise_map]
  refine List.Pairwise.imp_of_mem (fun {x y} hx hy hxy => ?_) List.pairwise_lt_range
  have := List.mem_range.mp hy
  exact orb_ne g t f hs hi h hh x y hxy fun m hm => a m (by omega)
theorem orb_lt {k : Nat} (a : alive sh s i0 k) : k < sh.length := by
  have := (orb_nd g t f hs hi h hh a).length_le_of_subset (l₂ := (List.range sh.length).map fun n : Nat => (n : Int)) fun x hx => by
    obtain ⟨m, hm, rfl⟩ := List.mem_map.mp hx
    have := List.mem_range.mp hm
    have q := (orb_in g t f hs hi h m fun m' hm' => a m' (by omega)).1
    exact List.mem_map.mpr ⟨(orb sh s i0 m).toNat, List.mem_range.mpr (by have := q.2; have := q.1; omega), Int.toNat_of_nonneg q.1⟩
  simp at this
  omega
theorem orb_end : ∃ K, alive sh s i0 K ∧ orb sh s i0 (K + 1) < 0 := by
  apply Classical.byContradiction
  intro no
  have all : ∀ k, alive sh s i0 k := fun k => by
    induction k with
    | zero => exact fun m hm => by omega
    | succ k ih =>
      intro m hm
      rcases Nat.lt_or_ge m k with q | q
      · exact ih m q
      · have e : m = k := by omega
        subst e
        rcases Int.lt_or_le (orb sh s i0 (m + 1)) 0 with z | z
        · exact absurd ⟨m, ih, z⟩ no
        · exact z
  exact Nat.lt_irrefl _ (orb_lt g t f hs hi h hh (all sh.length))
omit g t f hs hi h hh in
theorem walk_orb {K : Nat} (a : alive sh s i0 K) (e : orb sh s i0 (K + 1) < 0) : ∀ (n m : Nat), m ≤ K → K + 1 - m ≤ n → walkR sh s n (orb sh s i0 m) = (List.range' m (K + 1 - m)).map (orb sh s i0)
  | 0, m, h1, h2 => by omega
  | n + 1, m, h1, h2 => by
    rw [walkR]
    have e1 : ahd (at' sh (orb sh s i0 m)) s = orb sh s i0 (m + 1) := rfl
    rw [e1]
    rcases Nat.lt_or_ge m K with q | q
    · rw [if_pos (a m q), walk_orb a e n (m + 1) (by omega) (by omega), show K + 1 - m = (K + 1 - (m + 1)) + 1 by omega, List.range'_succ, List.map_cons]
    · have : m = K := by omega
      subst this
      rw [if_neg (by omega), show m + 1 - m = 1 by omega]
      rfl
theorem walk_all {K : Nat} (a : alive sh s i0 K) (e : orb sh s i0 (K + 1) < 0) : walkR sh s sh.length i0 = (List.range (K + 1)).map (orb sh s i0) := by
  have := walk_orb (sh := sh) a e sh.length 0 (by omega) (by have := orb_lt g t f hs hi h hh a; omega)
  rw [List.range_eq_range']
  exact this
end
theorem mem_having {sh : Sheet} {s i : Int} : i ∈ having sh s ↔ inS sh i ∧ s ∈ at' sh i := by
  unfold having
  rw [List.mem_map]
  constructor
  · rintro ⟨z, hz, rfl⟩
    obtain ⟨h1, h2⟩ := List.mem_filter.mp hz
    obtain ⟨a, b⟩ := zip_at h1
    exact ⟨a, by rw [b]; exact of_decide_eq_true h2⟩
  · rintro ⟨a, b⟩
    refine ⟨(at' sh i, i.toNat), List.mem_filter.mpr ⟨List.mk_mem_zipIdx_iff_getElem?.mpr (at_some a), decide_eq_true b⟩, Int.toNat_of_nonneg a.1⟩
theorem having_nd (sh : Sheet) (s : Int) : (having sh s).Nodup := by
  unfold having
  have : (sh.zipIdx.map fun p => (p.2 : Int)).Nodup := by
    rw [List.nodup_iff_pairwise_ne, List.pairwise_map]
    have h : (sh.zipIdx.map (·.2)).Pairwise (· < ·) := by
      rw [List.zipIdx_map_snd]
      exact List.pairwise_lt_range'
    rw [List.pairwise_map] at h
    exact h.imp fun {a b} q z => by omega
  exact List.Pairwise.sublist (List.Sublist.map _ List.filter_sublist) this
theorem mem_firsts {sh : Sheet} {s i : Int} : i ∈ firsts sh s ↔ (inS sh i ∧ s ∈ at' sh i) ∧ aft (at' sh i) s = sideAf s := by
  unfold firsts
  rw [List.mem_filter, mem_having]
  simp
theorem firsts_nd (sh : Sheet) (s : Int) : (firsts sh s).Nodup := List.Pairwise.sublist List.filter_sublist (having_nd sh s)
/-- two that begin a row: then it has not all -/
theorem two_firsts {sh : Sheet} {s i0 i1 : Int} {r : List Int} (g : Good sh) (t : Tied sh) (f : Faced sh) (hs : -4 ≤ s ∧ s < 0) (h : firsts sh s = i0 :: i1 :: r) : hasRow sh s = false := by
  have m0 := mem_firsts.mp (show i0 ∈ firsts sh s by rw [h]; simp)
  have m1 := mem_firsts.mp (show i1 ∈ firsts sh s by rw [h]; simp)
  have nd := firsts_nd sh s
  rw [h] at nd
  have n01 : i0 ≠ i1 := fun e => by simp [e] at nd
  unfold hasRow
  rw [h]
  simp only [decide_eq_false_iff_not]
  obtain ⟨K, a, e⟩ := orb_end g t f hs m0.1.1 m0.1.2 m0.2
  rw [walk_all g t f hs m0.1.1 m0.1.2 m0.2 a e]
  have nd2 : (i1 :: (List.range (K + 1)).map (orb sh s i0)).Nodup := by
    rw [List.nodup_cons]
    refine ⟨fun hm => ?_, orb_nd g t f hs m0.1.1 m0.1.2 m0.2 a⟩
    obtain ⟨m, hm, e⟩ := List.mem_map.mp hm
    have hm := List.mem_range.mp hm
    match m with
    | 0 => exact n01 e
    | m + 1 =>
      have am : alive sh s i0 (m + 1) := fun m' hm' => a m' (by omega)
      have b := orb_back g t f hs m0.1.1 m0.1.2 am
      rw [e, m1.2] at b
      have := (orb_in g t f hs m0.1.1 m0.1.2 m fun m' hm' => a m' (by omega)).1.1
      unfold sideAf at b
      split at b <;> omega
  have := nd2.length_le_of_subset (l₂ := having sh s) fun x hx => by
    rcases List.mem_cons.mp hx with rfl | hx
    · exact mem_having.mpr m1.1
    · obtain ⟨m, hm, rfl⟩ := List.mem_map.mp hx
      have hm := List.mem_range.mp hm
      exact mem_having.mpr (orb_in g t f hs m0.1.1 m0.1.2 m fun m' hm' => a m' (by omega))
  simp only [List.length_cons] at this
  omega
end LawM
end
section
set_option Elab.async false
set_option linter.all false
set_option maxRecDepth 100000
set_option maxHeartbeats 1000000
/-! S7: the row of a side: the walk. -/
namespace LawM
open PySem PySem.Spec PyProof.Rows L2 MP
theorem set_last (S : Sto) (xs ys : List D) : (S ++ [xs]).set S.length ys = S ++ [ys] := by
  apply List.ext_getElem?
  intro i
  rw [List.getElem?_set]
  rcases Nat.lt_trichotomy S.length i with h | h | h
  · rw [if_neg (by omega), List.getElem?_eq_none (by simp; omega), List.getElem?_eq_none (by simp; omega)]
  · subst h
    simp
  · rw [if_neg (by omega), List.getElem?_append_left h, List.getElem?_append_left h]
theorem at_end (S : Sto) (xs : List D) : (S ++ [xs])[S.length]? = some xs := by
  rw [List.getElem?_append_right (by omega), Nat.sub_self]
  rfl
theorem app_ok {i l : Nat} {e : Ev} {ρ : MP.Env} {S : Sto} {xs : List D} {d : D} (h : ρ[i]? = some (some (.lst l))) (he : e ρ S = .ok d S) (hl : S[l]? = some xs) (hx : xs.length < 1000000) : eMt mAppend (eVar i) (aCons e aNil) ρ S = .ok .non (S.set l (xs ++ [d])) := by
  unfold eMt
  rw [var_ok h, Res.bind_ok]
  simp only [args1 he, Res.bind_ok]
  unfold mAppend
  simp only [hl, Option.bind_some]
  rw [if_pos (show xs.length < most from hx), lift_some]
theorem expr_ok {e : Ev} {ρ : MP.Env} {S S1 : Sto} {d : D} (h : e ρ S = .ok d S1) : sExpr e ρ S = .next ρ S1 := by
  unfold sExpr
  rw [h]
  rfl
theorem while_n {t : EvB} {body : Es} (I : Nat → MP.Env → Sto → Prop) (K : Nat) (step : ∀ k ρ S, k < K → I k ρ S → t ρ S = .ok true S ∧ ∃ ρ2 S2, body ρ S = .next ρ2 S2 ∧ I (k + 1) ρ2 S2) (last : ∀ ρ S, I K ρ S → t ρ S = .ok false S) :
    ∀ (n k : Nat) (ρ : MP.Env) (S : Sto), k ≤ K → K - k < n → I k ρ S → ∃ ρ' S', whileLoop t body n ρ S = .next ρ' S' ∧ I K ρ' S'
  | 0, k, ρ, S, _, h, _ => by omega
  | n + 1, k, ρ, S, hk, hn, hI => by
    rcases Nat.lt_or_ge k K with q | q
    · obtain ⟨h1, ρ2, S2, h2, h3⟩ := step k ρ S q hI
      rw [while_step h1 h2]
      exact while_n I K step last n (k + 1) ρ2 S2 (by omega) (by omega) h3
    · have : k = K := by omega
      subst this
      exact ⟨ρ, S, while_done (last ρ S hI), hI⟩
theorem sw_n {t : EvB} {body : Es} (I : Nat → MP.Env → Sto → Prop) (K : Nat) (hK : K < 2 ^ 60) (step : ∀ k ρ S, k < K → I k ρ S → t ρ S = .ok true S ∧ ∃ ρ2 S2, body ρ S = .next ρ2 S2 ∧ I (k + 1) ρ2 S2) (last : ∀ ρ S, I K ρ S → t ρ S = .ok false S) (ρ : MP.Env) (S : Sto) (h : I 0 ρ S) : ∃ ρ' S', sWhile t body ρ S = .next ρ' S' ∧ I K ρ' S' := by
  unfold sWhile
  exact while_n I K step last fuel 0 ρ S (by omega) (fuel_big (Nat.lt_of_lt_of_le (by omega : K - 0 < 2 ^ 60) (Nat.pow_le_pow_right (by decide) (by decide)))) h
theorem lc_sel {α : Type} {st : Sto → Prop} {b : D → MP.Env → Option MP.Env} {t : EvB} {e : Ev} {ρ : MP.Env} (m : α → D) (q : α → Bool) (f : α → D) {S : Sto} (hst : ∀ G, st (S ++ G)) : ∀ (xs : List α) (acc : List D) (G : Sto), acc.length + xs.length ≤ 1000000 →
    (∀ x ∈ xs, ∃ ρ1, b (m x) ρ = some ρ1 ∧ (∀ G, ∃ G', t ρ1 (S ++ G) = .ok (q x) (S ++ G')) ∧ (q x = true → ∀ G, ∃ G', e ρ1 (S ++ G) = .ok (f x) (S ++ G'))) → ∃ G', lcLoop st b t e ρ (xs.map m) acc (S ++ G) = .ok (acc ++ (xs.filter q).map f) (S ++ G')
  | [], acc, G, _, _ => ⟨G, by rw [List.map_nil, lc_nil (hst G)]; simp⟩
  | x :: xs, acc, G, hl, h => by
    obtain ⟨ρ1, h1, h2, h3⟩ := h x (by simp)
    simp only [List.length_cons] at hl
    have ih := fun acc' G' (hl' : acc'.length + xs.length ≤ 1000000) => lc_sel m q f hst xs acc' G' hl' fun y hy => h y (by simp [hy])
    obtain ⟨G1, k1⟩ := h2 G
    rw [List.map_cons]
    cases hq : q x with
    | true =>
      obtain ⟨G2, k2⟩ := h3 hq G1
      obtain ⟨G3, k3⟩ := ih (acc ++ [f x]) G2 (by simp; omega)
      exact ⟨G3, by rw [lc_cons (hst G) h1 (by rw [k1, hq]) k2 (by omega), k3, List.filter_cons_of_pos hq]; simp⟩
    | false =>
      obtain ⟨G3, k3⟩ := ih acc G1 (by omega)
      refine ⟨G3, ?_⟩
      rw [lcLoop]
      simp only [hst G, if_true, h1, k1, hq]
      rw [List.filter_cons_of_neg (by rw [hq]; decide)]
      exact k3
theorem lc_enu {a : Ev} {b : D → MP.Env → Option MP.Env} {t : EvB} {e : Ev} {vs : List Nat} {ρ : MP.Env} {S S1 S2 : Sto} {xs ys : List D} (ha : a ρ S = .ok (.tup xs) S1) (h : lcLoop (fun _ => True) b t e (wipeE ρ vs) (enuD 0 xs) [] S1 = .ok ys S2) : eLc (iRange enuS (aCons a aNil)) b t e vs ρ S = .ok (.lst S2.length) (S2 ++ [ys]) := by
  unfold eLc iRange
  rw [args1 ha, Res.bind_ok]
  show (Res.ok _ S1).bind _ = _
  rw [Res.bind_ok, h]
  rfl
theorem lc_rng {a : Ev} {b : D → MP.Env → Option MP.Env} {t : EvB} {e : Ev} {vs : List Nat} {ρ : MP.Env} {S S1 S2 : Sto} {n : Nat} {ys : List D} (ha : a ρ S = .ok (.int n) S1) (hn : n ≤ 1000000) (h : lcLoop (fun _ => True) b t e (wipeE ρ vs) (rngL 0 n) [] S1 = .ok ys S2) : eLc (iRange rng1 (aCons a aNil)) b t e vs ρ S = .ok (.lst S2.length) (S2 ++ [ys]) := by
  unfold eLc iRange
  rw [args1 ha, Res.bind_ok, rng_ok hn, Res.bind_ok, h]
  rfl
theorem lc_lst {a : Ev} {b : D → MP.Env → Option MP.Env} {t : EvB} {e : Ev} {vs : List Nat} {ρ : MP.Env} {S S1 S2 : Sto} {l : Nat} {xs ys : List D} (ha : a ρ S = .ok (.lst l) S1) (hl : S1[l]? = some xs) (h : lcLoop (fun S' => S'[l]? = some xs) b t e (wipeE ρ vs) xs [] S1 = .ok ys S2) : eLc (iSeq a) b t e vs ρ S = .ok (.lst S2.length) (S2 ++ [ys]) := by
  unfold eLc iSeq srcOf
  rw [ha, Res.bind_ok]
  simp only [hl, Option.map_some, Res.bind_ok, h]
theorem row_ok {sh : Sheet} {s i0 : Int} (g : Good sh) (t : Tied sh) (f : Faced sh) (hs : -4 ≤ s ∧ s < 0) (hf : i0 ∈ firsts sh s) (hn : sh.length ≤ 1000) {S : Sto} : ∃ G, rf_row_from [dsh sh, .int s, .int i0] S = .ok (di (walkR sh s sh.length i0)) (S ++ G) := by
  obtain ⟨⟨hi, hm⟩, hh⟩ := mem_firsts.mp hf
  obtain ⟨K, a, e⟩ := orb_end g t f hs hi hm hh
  have hK := orb_lt g t f hs hi hm hh a
  rw [walk_all g t f hs hi hm hh a e]
  unfold rf_row_from runDef ev_row_from
  rw [show begins 5 [dsh sh, D.int s, .int i0] = [some (dsh sh), some (.int s), some (.int i0), none, none] from rfl]
  rw [seq_next (ret_asg (lst1 (x := .int i0) fun S => var_ok rfl))]
  simp only [List.set_cons_zero, List.set_cons_succ]
  rw [seq_next (ret_asg ((call2 (b_ok (var_ok rfl) (var_ok rfl) (ix_dsh hi)) (var_ok rfl)).trans (spahd hm)))]
  simp only [List.set_cons_zero, List.set_cons_succ]
  obtain ⟨ρ', S', h1, h2, h3⟩ := sw_n (t := (eTest (eB dGe (eVar 4) (eC (.int 0))))) (body := (sSeq (sExpr (eMt mAppend (eVar 3) (aCons (eVar 4) aNil)))
 (sAsg 4 (eCall 2 sp_ahead (aCons (eB dIx (eVar 0) (eVar 4)) (aCons (eVar 1) aNil)))))) (fun k ρ S' => ρ = [some (dsh sh), some (.int s), some (.int i0), some (.lst S.length), some (.int (orb sh s i0 (k + 1)))] ∧ S' = S ++ [((List.range (k + 1)).map (orb sh s i0)).map D.int]) K (by omega) (fun k ρ S' hk hI => by
      obtain ⟨rfl, rfl⟩ := hI
      have h0 := a k hk
      obtain ⟨q1, q2⟩ := orb_in g t f hs hi hm (k + 1) fun m hm => a m (by omega)
      refine ⟨(test_ok (ge_ok (var_ok rfl) c_ok)).trans (by rw [decide_eq_true h0]), ?_⟩
      rw [seq_next (expr_ok (app_ok (xs := ((List.range (k + 1)).map (orb sh s i0)).map D.int) rfl (var_ok rfl) (at_end _ _) (by simp; omega)))]
      rw [ret_asg ((call2 (b_ok (var_ok rfl) (var_ok rfl) (ix_dsh q1)) (var_ok rfl)).trans (spahd q2))]
      refine ⟨_, _, rfl, rfl, (set_last _ _ _).trans ?_⟩
      rw [List.range_succ (n := k + 1), List.map_append, List.map_append]
      rfl) (fun ρ S' hI => by
      obtain ⟨rfl, rfl⟩ := hI
      exact (test_ok (ge_ok (var_ok rfl) c_ok)).trans (by rw [decide_eq_false (by omega)])) [some (dsh sh), some (.int s), some (.int i0), some (.lst S.length), some (.int (ahd (at' sh i0) s))] (S ++ [[.int i0]]) ⟨rfl, rfl⟩
  subst h2 h3
  rw [seq_next h1, ret_ret (tup_ev (xs := ((List.range (K + 1)).map (orb sh s i0)).map D.int) rfl (at_end _ _))]
  exact ⟨_, rfl⟩
theorem below_ints (n : Nat) : ∀ c : List Int, BelowL n (c.map D.int)
  | [] => by unfold BelowL; trivial
  | x :: c => by
    rw [List.map_cons]
    unfold BelowL
    exact ⟨by unfold MP.Below; trivial, below_ints n c⟩
theorem sim_row_from : ∀ ds S, Sim S (rf_row_from ds S) (sp_row_from ds S) := by
  intro ds S
  unfold sp_row_from
  split
  · split
    · rename_i sh hs
      split
      · rename_i h
        rw [shOf_eq hs]
        obtain ⟨G, e⟩ := row_ok h.1 h.2.1 h.2.2.1 ⟨h.2.2.2.1, h.2.2.2.2.1⟩ h.2.2.2.2.2.1 h.2.2.2.2.2.2 (S := S)
        exact Sim.val e (by unfold di MP.Below; exact below_ints _ _)
      · trivial
    · trivial
  · trivial
theorem sprow {sh : Sheet} {s i0 : Int} (g : Good sh) (t : Tied sh) (f : Faced sh) (hs : -4 ≤ s ∧ s < 0) (hf : i0 ∈ firsts sh s) (hn : sh.length ≤ 1000) {S : Sto} : sp_row_from [dsh sh, .int s, .int i0] S = .ok (di (walkR sh s sh.length i0)) S := by
  unfold sp_row_from
  simp only [shOf_dsh, g, t, f, hs, hf, hn, and_self, if_true]
theorem having_f (sh : Sheet) (s : Int) : (sh.zipIdx.filter fun p => decide (s ∈ p.1)).map (fun p => D.int p.2) = (having sh s).map D.int := by
  unfold having
  rw [List.map_map]
  rfl
theorem having_len (sh : Sheet) (s : Int) : (having sh s).length ≤ sh.length := by
  unfold having
  rw [List.length_map]
  exact Nat.le_trans (List.length_filter_le _ _) (by rw [List.length_zipIdx]; omega)
theorem has_ok {sh : Sheet} {s : Int} (g : Good sh) (t : Tied sh) (f : Faced sh) (hs : -4 ≤ s ∧ s < 0) (hn : sh.length ≤ 1000) {S : Sto} : ∃ G, rf__has_row [dsh sh, .int s] S = .ok (.bl (hasRow sh s)) (S ++ G) := by
  unfold rf__has_row runDef ev__has_row
  rw [show begins 6 [dsh sh, D.int s] = [some (dsh sh), some (.int s), none, none, none, none] from rfl]
  obtain ⟨G1, e1⟩ := lc_sel (st := fun _ => True) (b := bTup 2 (bCons (bName 3) (bCons (bName 4) bNil))) (t := eTest (eB dIn (eVar 1) (eVar 4))) (e := eVar 3) (ρ := [some (dsh sh), some (.int s), none, none, none, none]) (fun p : List Int × Nat => D.wk [.int p.2, di p.1]) (fun p => decide (s ∈ p.1)) (fun p => D.int p.2) (S := S) (fun _ => trivial) sh.zipIdx [] [] (by simp; omega) (fun z hz => ⟨_, rfl, fun G => ⟨G, test_ok (b_ok (var_ok rfl) (var_ok rfl) in_tup)⟩, fun _ G => ⟨G, var_ok rfl⟩⟩)
  rw [having_f, List.nil_append, List.append_nil, ← enu_sh] at e1
  rw [seq_next (ret_asg (lc_enu (xs := sh.map di) (var_ok rfl) e1))]
  simp only [List.set_cons_zero, List.set_cons_succ]
  have hl := at_end (S ++ G1) ((having sh s).map D.int)
  have happ : ∀ G, (S ++ G1 ++ [(having sh s).map D.int] ++ G)[(S ++ G1).length]? = some ((having sh s).map D.int) := fun G => by
    rw [List.getElem?_append_left (by simp)]
    exact hl
  obtain ⟨G2, e2⟩ := lc_sel (st := fun S' => S'[(S ++ G1).length]? = some ((having sh s).map D.int)) (b := bName 3) (t := (eTest (eB dEq (eCall 2 sp_after (aCons (eB dIx (eVar 0) (eVar 3)) (aCons (eVar 1) aNil))) (eCall 1 sp_side_after (aCons (eVar 1) aNil))))) (e := eVar 3) (ρ := [some (dsh sh), some (.int s), some (.lst (S ++ G1).length), none, none, none]) D.int (fun i => decide (aft (at' sh i) s = sideAf s)) D.int (S := S ++ G1 ++ [(having sh s).map D.int]) happ (having sh s) [] [] (by have := having_len sh s; simp; omega) (fun i hi => by
    obtain ⟨q1, q2⟩ := mem_having.mp hi
    exact ⟨_, rfl, fun G => ⟨G, test_ok (eq_ok ((call2 (b_ok (var_ok rfl) (var_ok rfl) (ix_dsh q1)) (var_ok rfl)).trans (spaft q2)) ((call1 (var_ok rfl)).trans (spside hs)))⟩, fun _ G => ⟨G, var_ok rfl⟩⟩)
  rw [List.nil_append, List.append_nil, show (having sh s).filter (fun i => decide (aft (at' sh i) s = sideAf s)) = firsts sh s from rfl] at e2
  rw [seq_next (ret_asg (lc_lst (var_ok rfl) hl e2))]
  simp only [List.set_cons_zero, List.set_cons_succ]
  have t1 := test_ok (eq_ok (len_ev (i := 5) (l := (S ++ G1 ++ [(having sh s).map D.int] ++ G2).length) (ρ := [some (dsh sh), some (.int s), some (.lst (S ++ G1).length), none, none, some (.lst (S ++ G1 ++ [(having sh s).map D.int] ++ G2).length)]) (S := S ++ G1 ++ [(having sh s).map D.int] ++ G2 ++ [(firsts sh s).map D.int]) (xs := (firsts sh s).map D.int) rfl (at_end _ _)) (c_ok (d := .int 0)))
  unfold hasRow
  cases hf : firsts sh s with
  | nil =>
    rw [hf] at t1
    rw [decide_eq_true (by rfl)] at t1
    rw [seq_ret ((if_t t1).trans (ret_ret c_ok))]
    exact ⟨G1 ++ ([(having sh s).map D.int] ++ (G2 ++ [([] : List Int).map D.int])), by simp [flowRes]⟩
  | cons i0 r =>
    have hi0 : i0 ∈ firsts sh s := by rw [hf]; simp
    rw [hf] at t1
    rw [if_no t1 (decide_eq_false (by simp only [List.length_map, List.length_cons]; omega))]
    have hlc : (S ++ G1 ++ [(having sh s).map D.int] ++ G2 ++ [(i0 :: r).map D.int])[(S ++ G1).length]? = some ((having sh s).map D.int) := by
      rw [List.append_assoc (S ++ G1 ++ _) G2]
      exact happ _
    have t2 : eB dEq (eL dLen (aCons (eCall 3 sp_row_from (aCons (eVar 0) (aCons (eVar 1) (aCons (eB dIx (eVar 5) (eC (.int 0))) aNil)))) aNil)) (eL dLen (aCons (eVar 2) aNil)) [some (dsh sh), some (.int s), some (.lst (S ++ G1).length), none, none, some (.lst (S ++ G1 ++ [(having sh s).map D.int] ++ G2).length)] (S ++ G1 ++ [(having sh s).map D.int] ++ G2 ++ [(i0 :: r).map D.int]) =
        .ok (.bl (decide (((((walkR sh s sh.length i0).map D.int).length : Nat) : Int) = ((((having sh s).map D.int).length : Nat) : Int)))) (S ++ G1 ++ [(having sh s).map D.int] ++ G2 ++ [(i0 :: r).map D.int]) :=
      eq_ok (lenT_ok ((call3 (var_ok rfl) (var_ok rfl) (b_ok (var_ok rfl) c_ok (ix_lst (k := 0) (xs := (i0 :: r).map D.int) (at_end _ _) rfl))).trans (sprow g t f hs hi0 hn))) (len_ev (xs := (having sh s).map D.int) rfl hlc)
    rw [ret_ret t2]
    refine ⟨G1 ++ ([(having sh s).map D.int] ++ (G2 ++ [(i0 :: r).map D.int])), ?_⟩
    simp only [flowRes, List.length_map, List.append_assoc]
    rw [show decide ((((walkR sh s sh.length i0).length : Nat) : Int) = (((having sh s).length : Nat) : Int)) = decide ((walkR sh s sh.length i0).length = (having sh s).length) from by rw [decide_eq_decide]; omega]
theorem sphas {sh : Sheet} {s : Int} (g : Good sh) (t : Tied sh) (f : Faced sh) (hs : -4 ≤ s ∧ s < 0) (hn : sh.length ≤ 1000) {S : Sto} : sp__has_row [dsh sh, .int s] S = .ok (.bl (hasRow sh s)) S := by
  unfold sp__has_row
  simp only [shOf_dsh, g, t, f, hs, hn, and_self, if_true]
theorem sphasL {sh : Sheet} {s : Int} (g : Good sh) (t : Tied sh) (f : Faced sh) (hs : -4 ≤ s ∧ s < 0) (hn : sh.length ≤ 1000) {S : Sto} : sp__law_edge [dsh sh, .int s] S = .ok (.bl (hasRow sh s)) S := sphas g t f hs hn
theorem sim__has_row : ∀ ds S, Sim S (rf__has_row ds S) (sp__has_row ds S) := by
  intro ds S
  unfold sp__has_row
  split
  · split
    · rename_i sh hs
      split
      · rename_i h
        rw [shOf_eq hs]
        obtain ⟨G, e⟩ := has_ok h.1 h.2.1 h.2.2.1 ⟨h.2.2.2.1, h.2.2.2.2.1⟩ h.2.2.2.2.2 (S := S)
        exact Sim.val e (by unfold MP.Below; trivial)
      · trivial
    · trivial
  · trivial
end LawM
end
section
set_option Elab.async false
set_option linter.all false
set_option maxRecDepth 100000
set_option maxHeartbeats 1000000
/-! S8: the law's reading of a side. -/
namespace LawM
open PySem PySem.Spec PyProof.Rows L2 MP
theorem side_ix2 {s x : Int} (h : sideAf x = s) (hx : -4 ≤ x ∧ x < 0) {i : Nat} {ρ : MP.Env} {S : Sto} (hs : ρ[i]? = some (some (.int s))) : eB dIx (eLst (aCons (eU dNeg (eC (.int 1))) (aCons (eU dNeg (eC (.int 4))) (aCons (eU dNeg (eC (.int 3))) (aCons (eU dNeg (eC (.int 2))) aNil))))) (eB dAdd (eVar i) (eC (.int 4))) ρ S = .ok (.int x) (S ++ [[.int (-1), .int (-4), .int (-3), .int (-2)]]) := by
  refine b_ok lst4 (add_ok (var_ok hs) c_ok) ?_
  subst h
  rcases sides4 hx with rfl | rfl | rfl | rfl
  · exact ix_lst (k := 1) (xs := [.int (-1), .int (-4), .int (-3), .int (-2)]) (by simp) rfl
  · exact ix_lst (k := 2) (xs := [.int (-1), .int (-4), .int (-3), .int (-2)]) (by simp) rfl
  · exact ix_lst (k := 3) (xs := [.int (-1), .int (-4), .int (-3), .int (-2)]) (by simp) rfl
  · exact ix_lst (k := 0) (xs := [.int (-1), .int (-4), .int (-3), .int (-2)]) (by simp) rfl
theorem eAnd_tt {a b : Ev} {ρ : MP.Env} {S S1 S2 : Sto} {d : D} (h1 : a ρ S = .ok (.bl true) S1) (h2 : b ρ S1 = .ok d S2) : eAnd a b ρ S = .ok d S2 := eAnd_ok h1 h2
theorem edge_ok {sh : Sheet} {s : Int} (g : Good sh) (t : Tied sh) (f : Faced sh) (hs : -4 ≤ s ∧ s < 0) (hn : sh.length ≤ 1000) {S : Sto} : ∃ G, rf__law_edge [dsh sh, .int s] S = .ok (.bl (hasRow sh s)) (S ++ G) := by
  unfold rf__law_edge runDef ev__law_edge
  rw [show begins 9 [dsh sh, D.int s] = [some (dsh sh), some (.int s), none, none, none, none, none, none, none] from rfl]
  have hlen : ∀ (S : Sto) (a b c d e x y : Option D), eL dLen (aCons (eVar 0) aNil) [some (dsh sh), some (.int s), a, b, c, d, e, x, y] S = .ok (.int (sh.length : Nat)) S := fun S a b c d e x y => (lenT_ok (xs := sh.map di) (var_ok rfl)).trans (by rw [List.length_map])
  obtain ⟨G1, e1⟩ := lc_sel (st := fun _ => True) (b := bName 3) (t := (eTest (eB dIn (eVar 1) (eB dIx (eVar 0) (eVar 3))))) (e := eVar 3) (ρ := [some (dsh sh), some (.int s), none, none, none, none, none, none, none]) (fun p : List Int × Nat => D.int p.2) (fun p => decide (s ∈ p.1)) (fun p => D.int p.2) (S := S) (fun _ => trivial) sh.zipIdx [] [] (by simp; omega) (fun z hz => by
    obtain ⟨hi, ha⟩ := zip_at hz
    exact ⟨_, rfl, fun G => ⟨G, test_ok (b_ok (var_ok rfl) (b_ok (var_ok rfl) (var_ok rfl) (ix_dsh hi)) (by rw [ha]; exact in_tup))⟩, fun _ G => ⟨G, var_ok rfl⟩⟩)
  rw [having_f, List.nil_append, List.append_nil, ← rng_sh] at e1
  rw [seq_next (ret_asg (lc_rng (n := sh.length) (hlen _ _ _ _ _ _ _ _) (by omega) e1))]
  simp only [List.set_cons_zero, List.set_cons_succ]
  have hl := at_end (S ++ G1) ((having sh s).map D.int)
  have happ : ∀ G, (S ++ G1 ++ [(having sh s).map D.int] ++ G)[(S ++ G1).length]? = some ((having sh s).map D.int) := fun G => by
    rw [List.getElem?_append_left (by simp)]
    exact hl
  obtain ⟨G2, e2⟩ := lc_sel (st := fun S' => S'[(S ++ G1).length]? = some ((having sh s).map D.int)) (b := bName 3) (t := (eTest (eB dEq (eCall 2 sp__law_after (aCons (eB dIx (eVar 0) (eVar 3)) (aCons (eVar 1) aNil))) (eB dIx (eLst (aCons (eU dNeg (eC (.int 3))) (aCons (eU dNeg (eC (.int 2))) (aCons (eU dNeg (eC (.int 1))) (aCons (eU dNeg (eC (.int 4))) aNil))))) (eB dAdd (eVar 1) (eC (.int 4))))))) (e := eVar 3) (ρ := [some (dsh sh), some (.int s), some (.lst (S ++ G1).length), none, none, none, none, none, none]) D.int (fun i => decide (aft (at' sh i) s = sideAf s)) D.int (S := S ++ G1 ++ [(having sh s).map D.int]) happ (having sh s) [] [] (by have := having_len sh s; simp; omega) (fun i hi => by
    obtain ⟨q1, q2⟩ := mem_having.mp hi
    exact ⟨_, rfl, fun G => ⟨G ++ _, test_ok (eq_ok ((call2 (b_ok (var_ok rfl) (var_ok rfl) (ix_dsh q1)) (var_ok rfl)).trans (splaft q2)) ((side_ix hs rfl).trans (by rw [List.append_assoc])))⟩, fun _ G => ⟨G, var_ok rfl⟩⟩)
  rw [List.nil_append, List.append_nil, show (having sh s).filter (fun i => decide (aft (at' sh i) s = sideAf s)) = firsts sh s from rfl] at e2
  rw [seq_next (ret_asg (lc_lst (var_ok rfl) hl e2))]
  simp only [List.set_cons_zero, List.set_cons_succ]
  have hlc : (S ++ G1 ++ [(having sh s).map D.int] ++ G2 ++ [(firsts sh s).map D.int])[(S ++ G1).length]? = some ((having sh s).map D.int) := by
    rw [List.append_assoc (S ++ G1 ++ _) G2]
    exact happ _
  have hh := at_end (S ++ G1 ++ [(having sh s).map D.int] ++ G2) ((firsts sh s).map D.int)
  have pre : S ++ G1 ++ [(having sh s).map D.int] ++ G2 ++ [(firsts sh s).map D.int] = S ++ (G1 ++ ([(having sh s).map D.int] ++ (G2 ++ [(firsts sh s).map D.int]))) := by simp
  generalize (S ++ G1 ++ [(having sh s).map D.int] ++ G2).length = lh at hh
  generalize (S ++ G1).length = lm at hlc
  clear e1 e2 hl happ
  generalize S ++ G1 ++ [(having sh s).map D.int] ++ G2 ++ [(firsts sh s).map D.int] = S2 at hh hlc pre
  generalize (G1 ++ ([(having sh s).map D.int] ++ (G2 ++ [(firsts sh s).map D.int]))) = G at pre
  subst pre
  have t1 : eTest (eB dNe (eL dLen (aCons (eVar 4) aNil)) (eC (.int 1))) [some (dsh sh), some (.int s), some (.lst lm), none, some (.lst lh), none, none, none, none] (S ++ G) = .ok (!decide (((((firsts sh s).map D.int).length : Nat) : Int) = 1)) (S ++ G) := test_ok (ne_ok (len_ev rfl hh) c_ok)
  by_cases h1 : (firsts sh s).length = 1
  · obtain ⟨i0, hf⟩ := List.length_eq_one_iff.mp h1
    have hi0 : i0 ∈ firsts sh s := by rw [hf]; simp
    rw [if_no t1 (by rw [List.length_map, h1]; rfl)]
    rw [hf] at hh
    rw [seq_next (ret_asg (show eB dIx (eVar 4) (eC (.int 0)) _ _ = .ok (.int i0) (S ++ G) from b_ok (var_ok rfl) c_ok (ix_lst (k := 0) (xs := [i0].map D.int) hh rfl)))]
    simp only [List.set_cons_zero, List.set_cons_succ]
    rw [seq_next (ret_asg (c_ok (d := .int 1)))]
    simp only [List.set_cons_zero, List.set_cons_succ]
    obtain ⟨⟨hi, hm⟩, hd⟩ := mem_firsts.mp hi0
    obtain ⟨K, a, e⟩ := orb_end g t f hs hi hm hd
    have hK := orb_lt g t f hs hi hm hd a
    have hw := walk_all g t f hs hi hm hd a e
    rcases for_genI (st := fun _ => True) (b := bName 7) (body := (sSeq (sAsg 8 (eCall 2 sp__law_ahead (aCons (eB dIx (eVar 0) (eVar 5)) (aCons (eVar 1) aNil))))
 (sSeq (sIf (eTest (eB dLt (eVar 8) (eC (.int 0))))
 (sRet (eAnd (eB dEq (eVar 8) (eB dIx (eLst (aCons (eU dNeg (eC (.int 1))) (aCons (eU dNeg (eC (.int 4))) (aCons (eU dNeg (eC (.int 3))) (aCons (eU dNeg (eC (.int 2))) aNil))))) (eB dAdd (eVar 1) (eC (.int 4))))) (eB dEq (eVar 6) (eL dLen (aCons (eVar 2) aNil)))))
 sSkip)
 (sSeq (sAsg 5 (eVar 8))
 (sAsg 6 (eB dAdd (eVar 6) (eC (.int 1)))))))) (rngL 0 sh.length) (fun k ρ S' => k ≤ K ∧ S' = S ++ G ∧ ∃ x y, ρ = [some (dsh sh), some (.int s), some (.lst lm), none, some (.lst lh), some (.int (orb sh s i0 k)), some (.int ((k + 1 : Nat) : Int)), x, y]) (fun F => ∃ G', F = .ret (.bl (decide (((K + 1 : Nat) : Int) = (((having sh s).length : Nat) : Int)))) (S ++ G')) (fun _ _ _ _ => trivial) (fun k x ρ S' hx hI => by
        obtain ⟨hk, rfl, x1, y1, rfl⟩ := hI
        obtain ⟨hkn, rfl⟩ := rng_at hx
        refine ⟨_, rfl, ?_⟩
        simp only [List.set_cons_zero, List.set_cons_succ]
        obtain ⟨q1, q2⟩ := orb_in g t f hs hi hm k fun m hm => a m (by omega)
        rw [seq_next (ret_asg (show eCall 2 sp__law_ahead (aCons (eB dIx (eVar 0) (eVar 5)) (aCons (eVar 1) aNil)) _ _ = .ok (.int (orb sh s i0 (k + 1))) (S ++ G) from (call2 (b_ok (var_ok rfl) (var_ok rfl) (ix_dsh q1)) (var_ok rfl)).trans (splahd q2)))]
        simp only [List.set_cons_zero, List.set_cons_succ]
        have t2 : eTest (eB dLt (eVar 8) (eC (.int 0))) [some (dsh sh), some (.int s), some (.lst lm), none, some (.lst lh), some (.int (orb sh s i0 k)), some (.int ((k + 1 : Nat) : Int)), some (.int k), some (.int (orb sh s i0 (k + 1)))] (S ++ G) = .ok (decide (orb sh s i0 (k + 1) < 0)) (S ++ G) := test_ok (lt_ok (var_ok rfl) c_ok)
        rcases Nat.lt_or_ge k K with q | q
        · have h0 := a k q
          refine .inl ⟨_, _, .inl ?_, by omega, rfl, some (.int k), some (.int (orb sh s i0 (k + 1))), rfl⟩
          rw [if_no t2 (decide_eq_false (by omega)), seq_next (ret_asg (var_ok rfl))]
          simp only [List.set_cons_zero, List.set_cons_succ]
          rw [ret_asg (show eB dAdd (eVar 6) (eC (.int 1)) _ _ = .ok (.int ((k + 1 + 1 : Nat) : Int)) (S ++ G) from add_ok (x := ((k + 1 : Nat) : Int)) (y := 1) (var_ok rfl) c_ok)]
          rfl
        · have : k = K := by omega
          subst this
          obtain ⟨n1, n2⟩ := stp_neg g t f hs q1 q2 e
          have t3 : eAnd (eB dEq (eVar 8) (eB dIx (eLst (aCons (eU dNeg (eC (.int 1))) (aCons (eU dNeg (eC (.int 4))) (aCons (eU dNeg (eC (.int 3))) (aCons (eU dNeg (eC (.int 2))) aNil))))) (eB dAdd (eVar 1) (eC (.int 4))))) (eB dEq (eVar 6) (eL dLen (aCons (eVar 2) aNil))) [some (dsh sh), some (.int s), some (.lst lm), none, some (.lst lh), some (.int (orb sh s i0 k)), some (.int ((k + 1 : Nat) : Int)), some (.int k), some (.int (orb sh s i0 (k + 1)))] (S ++ G) = .ok (.bl (decide (((k + 1 : Nat) : Int) = ((((having sh s).map D.int).length : Nat) : Int)))) (S ++ G ++ [[.int (-1), .int (-4), .int (-3), .int (-2)]]) := by
            refine eAnd_ok (show _ = Res.ok (D.bl true) _ from ?_) (eq_ok (var_ok rfl) (len_ev rfl (by rw [List.getElem?_append_left (List.getElem?_eq_some_iff.mp hlc).1]; exact hlc)))
            rw [eq_ok (var_ok rfl) (side_ix2 n1 ⟨n2, e⟩ rfl)]
            exact congrArg (fun z => Res.ok (D.bl z) _) (decide_eq_true rfl)
          rw [decide_eq_true e] at t2
          rw [List.length_map] at t3
          rw [seq_ret ((if_t t2).trans (ret_ret t3))]
          exact .inr ⟨.inl ⟨_, _, rfl⟩, _, by rw [List.append_assoc]⟩) [some (dsh sh), some (.int s), some (.lst lm), none, some (.lst lh), some (.int i0), some (.int 1), none, none] (S ++ G) ⟨by omega, rfl, _, _, rfl⟩ with ⟨ρ', S', e1, h2, _⟩ | ⟨G', e1⟩
    · rw [rngL_length] at h2
      omega
    · rw [seq_ret (for_rng (n := sh.length) (args1 (hlen _ _ _ _ _ _ _ _)) (by omega) e1)]
      refine ⟨G', ?_⟩
      unfold hasRow
      simp only [hf, hw, List.length_map, List.length_range]
      rw [show decide (((K + 1 : Nat) : Int) = (((having sh s).length : Nat) : Int)) = decide (K + 1 = (having sh s).length) from by rw [decide_eq_decide]; omega]
      rfl
  · rw [decide_eq_false (by rw [List.length_map]; omega)] at t1
    rw [seq_ret ((if_t t1).trans (ret_ret c_ok))]
    have : hasRow sh s = false := by
      cases hf : firsts sh s with
      | nil =>
        unfold hasRow
        rw [hf]
      | cons i0 r =>
        cases r with
        | nil => rw [hf] at h1; exact absurd rfl h1
        | cons i1 r => exact two_firsts g t f hs hf
    rw [this]
    exact ⟨G, rfl⟩
theorem sim__law_edge : ∀ ds S, Sim S (rf__law_edge ds S) (sp__law_edge ds S) := by
  intro ds S
  unfold sp__law_edge sp__has_row
  split
  · split
    · rename_i sh hs
      split
      · rename_i h
        rw [shOf_eq hs]
        obtain ⟨G, e⟩ := edge_ok h.1 h.2.1 h.2.2.1 ⟨h.2.2.2.1, h.2.2.2.2.1⟩ h.2.2.2.2.2 (S := S)
        exact Sim.val e (by unfold MP.Below; trivial)
      · trivial
    · trivial
  · trivial
end LawM
end
section
set_option Elab.async false
set_option linter.all false
set_option maxRecDepth 100000
set_option maxHeartbeats 1000000
/-! S9: all pictures found from the first. -/
namespace LawM
open PySem PySem.Spec PyProof.Rows L2 MP
theorem least (P : Nat → Prop) [DecidablePred P] : ∀ n, P n → ∃ K, K ≤ n ∧ P K ∧ ∀ k, k < K → ¬ P k := fun n => by
  induction n using Nat.strongRecOn with
  | _ n ih =>
    intro h
    by_cases q : ∃ k, k < n ∧ P k
    · obtain ⟨k, h1, h2⟩ := q
      obtain ⟨K, a, b, c⟩ := ih k h1 h2
      exact ⟨K, by omega, b, c⟩
    · exact ⟨n, Nat.le_refl n, h, fun k hk hp => q ⟨k, hk, hp⟩⟩
def OkF (sh : Sheet) (F : List Int) : Prop := F.Nodup ∧ ∀ x ∈ F, inS sh x
theorem okF_len {sh : Sheet} {F : List Int} (h : OkF sh F) : F.length ≤ sh.length := by
  have := h.1.length_le_of_subset (l₂ := (List.range sh.length).map fun n : Nat => (n : Int)) fun x hx => by
    have q := h.2 x hx
    exact List.mem_map.mpr ⟨x.toNat, List.mem_range.mpr (by have := q.2; have := q.1; omega), Int.toNat_of_nonneg q.1⟩
  simpa using this
theorem okF_one {sh : Sheet} {F : List Int} {j : Int} (h : OkF sh F) (hj : 0 ≤ j → inS sh j) : OkF sh (if 0 ≤ j ∧ j ∉ F then F ++ [j] else F) := by
  split
  · rename_i q
    refine ⟨?_, fun x hx => ?_⟩
    · rw [List.nodup_append]
      exact ⟨h.1, by simp, fun a ha b hb z => by simp at hb; subst hb; subst z; exact q.2 ha⟩
    · rcases List.mem_append.mp hx with hx | hx
      · exact h.2 x hx
      · simp at hx
        subst hx
        exact hj q.1
  · exact h
theorem okF_add {sh : Sheet} : ∀ {c F : List Int}, OkF sh F → (∀ j ∈ c, 0 ≤ j → inS sh j) → OkF sh (addNew F c)
  | [], F, h, _ => h
  | j :: c, F, h, hc => by
    rw [addNew]
    exact okF_add (okF_one h (hc j (by simp))) fun j' hj' => hc j' (by simp [hj'])
theorem len_add : ∀ (c F : List Int), F.length ≤ (addNew F c).length
  | [], F => Nat.le_refl _
  | j :: c, F => by
    rw [addNew]
    refine Nat.le_trans ?_ (len_add c _)
    split
    · simp
    · exact Nat.le_refl _
theorem okF_bfs {sh : Sheet} (g : Good sh) (h0 : sh ≠ []) : ∀ k, OkF sh (bfs sh k)
  | 0 => ⟨by simp [bfs], fun x hx => by
    simp [bfs] at hx
    subst hx
    have := List.length_pos_iff.mpr h0
    exact ⟨by omega, by omega⟩⟩
  | k + 1 => by
    rw [bfs]
    have ih := okF_bfs g h0 k
    split
    · rename_i q
      have hi := ih.2 _ (getD_mem q)
      exact okF_add ih fun j hj => in_of g hi hj
    · exact ih
theorem bfs_stay {sh : Sheet} {K : Nat} (h : (bfs sh K).length ≤ K) : ∀ m, bfs sh (K + m) = bfs sh K
  | 0 => rfl
  | m + 1 => by
    rw [← Nat.add_assoc, bfs, bfs_stay h m, if_neg (by omega)]
theorem bfs_mono (sh : Sheet) (k : Nat) : (bfs sh k).length ≤ (bfs sh (k + 1)).length := by
  rw [bfs]
  split
  · exact len_add _ _
  · exact Nat.le_refl _
theorem bfs_end {sh : Sheet} (g : Good sh) (h0 : sh ≠ []) : ∃ K, K ≤ sh.length ∧ (bfs sh K).length ≤ K ∧ ∀ k, k < K → k < (bfs sh k).length := by
  obtain ⟨K, a, b, c⟩ := least (fun k => (bfs sh k).length ≤ k) sh.length (okF_len (okF_bfs g h0 _))
  exact ⟨K, a, b, fun k hk => by have := c k hk; omega⟩
/-- those of a circle that are new are laid behind -/
theorem add_loop {sh : Sheet} {v : Nat} {e : Ev} {S : Sto} (hn : sh.length ≤ 1000) (E : MP.Env → Prop) (h1 : ∀ ρ, E ρ → ρ[1]? = some (some (.lst S.length))) (h2 : ∀ ρ d, E ρ → E (ρ.set v (some d))) (h3 : ∀ ρ, E ρ → v < ρ.length) :
    ∀ (c F : List Int) (ρ : MP.Env), OkF sh F → (∀ j ∈ c, 0 ≤ j → inS sh j) → E ρ → ∃ ρ', forLoop (fun _ => True) (bName v) (sIf (eAndT (eTest (eB dGe (eVar v) (eC (.int 0)))) (eTest (eB dNotIn (eVar v) (eVar 1)))) (sExpr (eMt mAppend (eVar 1) (aCons (eVar v) aNil))) sSkip) (c.map D.int) ρ (S ++ [F.map D.int]) = .next ρ' (S ++ [(addNew F c).map D.int]) ∧ E ρ'
  | [], F, ρ, _, _, hE => ⟨ρ, for_nil trivial, hE⟩
  | j :: c, F, ρ, hF, hc, hE => by
    rw [List.map_cons, addNew]
    have hE2 := h2 ρ (.int j) hE
    have hv : (ρ.set v (some (D.int j)))[v]? = some (some (.int j)) := by
      rw [List.getElem?_set_self (h3 ρ hE)]
    have t1 : eTest (eB dGe (eVar v) (eC (.int 0))) (ρ.set v (some (D.int j))) (S ++ [F.map D.int]) = .ok (decide (0 ≤ j)) (S ++ [F.map D.int]) := test_ok (ge_ok (var_ok hv) c_ok)
    have t2 : eTest (eB dNotIn (eVar v) (eVar 1)) (ρ.set v (some (D.int j))) (S ++ [F.map D.int]) = .ok (!decide (j ∈ F)) (S ++ [F.map D.int]) := test_ok (b_ok (var_ok hv) (var_ok (h1 _ hE2)) (notIn_lst (at_end _ _)))
    have tt := and_b t1 t2
    have ok1 := okF_one hF (hc j (by simp))
    have hc' : ∀ j' ∈ c, 0 ≤ j' → inS sh j' := fun j' hj' => hc j' (by simp [hj'])
    by_cases q : 0 ≤ j ∧ j ∉ F
    · rw [if_pos q] at ok1 ⊢
      rw [decide_eq_true q.1, decide_eq_false q.2] at tt
      have hl := okF_len hF
      rw [for_cons trivial rfl (show _ = MP.Flow.next (ρ.set v (some (D.int j))) (S ++ [(F ++ [j]).map D.int]) from (if_t tt).trans ((expr_ok (app_ok (xs := F.map D.int) (h1 _ hE2) (var_ok hv) (at_end _ _) (by simp; omega))).trans (by rw [set_last, List.map_append]; rfl)))]
      exact add_loop (e := e) hn E h1 h2 h3 c _ _ ok1 hc' hE2
    · rw [if_neg q] at ok1 ⊢
      have : (decide (0 ≤ j) && !decide (j ∈ F)) = false := by
        cases z : (decide (0 ≤ j) && !decide (j ∈ F)) with
        | false => rfl
        | true => exact absurd (by simpa using z) q
      rw [this] at tt
      rw [for_cons trivial rfl (if_s tt)]
      exact add_loop (e := e) hn E h1 h2 h3 c _ _ ok1 hc' hE2
theorem aug_ok {i : Nat} {e : Ev} {ρ : MP.Env} {S S1 : Sto} {x y : Int} (h : ρ[i]? = some (some (.int x))) (he : e ρ S = .ok (.int y) S1) : sAug i (dI0 fun i j => .int (i + j)) e ρ S = .next (ρ.set i (some (.int (x + y)))) S1 := by
  unfold sAug
  rw [h]
  simp only [he, ofRes_ok]
  rfl
theorem whole_ok' {sh : Sheet} (g : Good sh) (h0 : sh ≠ []) (hn : sh.length ≤ 1000) {S : Sto} : ∃ G, rf__is_whole [dsh sh] S = .ok (.bl (whole sh)) (S ++ G) := by
  obtain ⟨K, hK, hKe, hKl⟩ := bfs_end g h0
  unfold rf__is_whole runDef ev__is_whole
  rw [show begins 5 [dsh sh] = [some (dsh sh), none, none, none, none] from rfl]
  rw [seq_next (ret_asg (lst1 (x := .int 0) fun S => c_ok))]
  simp only [List.set_cons_zero, List.set_cons_succ]
  rw [seq_next (ret_asg (c_ok (d := .int 0)))]
  simp only [List.set_cons_zero, List.set_cons_succ]
  obtain ⟨ρ', S', h1, ⟨a, b, h2⟩, h3⟩ := sw_n (t := (eTest (eB dLt (eVar 2) (eL dLen (aCons (eVar 1) aNil))))) (body := (sSeq (sAsg 3 (eB dIx (eVar 0) (eB dIx (eVar 1) (eVar 2))))
 (sSeq (sFor (iSeq (eVar 3)) (bName 4)
 (sIf (eAndT (eTest (eB dGe (eVar 4) (eC (.int 0)))) (eTest (eB dNotIn (eVar 4) (eVar 1))))
 (sExpr (eMt mAppend (eVar 1) (aCons (eVar 4) aNil)))
 sSkip))
 (sAug 2 (dI0 fun i j => .int (i + j)) (eC (.int 1)))))) (fun k ρ S' => (∃ a b, ρ = [some (dsh sh), some (.lst S.length), some (.int (k : Nat)), a, b]) ∧ S' = S ++ [(bfs sh k).map D.int]) K (by omega) (fun k ρ S' hk hI => by
      obtain ⟨⟨a, b, rfl⟩, rfl⟩ := hI
      have hl := hKl k hk
      have ok := okF_bfs g h0 k
      have hi := ok.2 _ (getD_mem hl)
      refine ⟨(test_ok (lt_ok (var_ok rfl) (len_ev rfl (at_end _ _)))).trans (by rw [decide_eq_true (by rw [List.length_map]; omega)]), ?_⟩
      rw [seq_next (ret_asg (show eB dIx (eVar 0) (eB dIx (eVar 1) (eVar 2)) _ _ = .ok (di (at' sh ((bfs sh k).getD k 0))) _ from b_ok (var_ok rfl) (b_ok (var_ok rfl) (var_ok rfl) (ix_lst (at_end _ _) (int_at' hl))) (ix_dsh hi)))]
      simp only [List.set_cons_zero, List.set_cons_succ]
      obtain ⟨ρ2, e2, b2, rfl⟩ := add_loop (sh := sh) (v := 4) (e := eVar 3) (S := S) hn (fun ρ => ∃ b, ρ = [some (dsh sh), some (.lst S.length), some (.int (k : Nat)), some (di (at' sh ((bfs sh k).getD k 0))), b]) (fun ρ ⟨b, h⟩ => by rw [h]; rfl) (fun ρ d ⟨b, h⟩ => by rw [h]; exact ⟨_, rfl⟩) (fun ρ ⟨b, h⟩ => by rw [h]; simp) (at' sh ((bfs sh k).getD k 0)) (bfs sh k) _ ok (fun j hj => in_of g hi hj) ⟨b, rfl⟩
      rw [seq_next (forT (var_ok rfl) e2), aug_ok rfl c_ok]
      refine ⟨_, _, rfl, ⟨some (di (at' sh ((bfs sh k).getD k 0))), b2, rfl⟩, ?_⟩
      rw [bfs, if_pos hl]) (fun ρ S' hI => by
      obtain ⟨⟨a, b, rfl⟩, rfl⟩ := hI
      exact (test_ok (lt_ok (var_ok rfl) (len_ev rfl (at_end _ _)))).trans (by rw [decide_eq_false (by rw [List.length_map]; omega)])) [some (dsh sh), some (.lst S.length), some (.int 0), none, none] (S ++ [[.int 0]]) ⟨⟨_, _, rfl⟩, rfl⟩
  subst h2 h3
  have t3 : eB dEq (eL dLen (aCons (eVar 1) aNil)) (eL dLen (aCons (eVar 0) aNil)) [some (dsh sh), some (.lst S.length), some (.int (K : Nat)), a, b] (S ++ [(bfs sh K).map D.int]) = .ok (.bl (decide (((((bfs sh K).map D.int).length : Nat) : Int) = (((sh.map di).length : Nat) : Int)))) (S ++ [(bfs sh K).map D.int]) := eq_ok (len_ev rfl (at_end _ _)) (lenT_ok (var_ok rfl))
  rw [seq_next h1, ret_ret t3]
  refine ⟨[(bfs sh K).map D.int], ?_⟩
  unfold whole
  have e : bfs sh sh.length = bfs sh K := by
    have := bfs_stay hKe (sh.length - K)
    rwa [show K + (sh.length - K) = sh.length by omega] at this
  rw [e, List.length_map, List.length_map, show decide ((((bfs sh K).length : Nat) : Int) = ((sh.length : Nat) : Int)) = decide ((bfs sh K).length = sh.length) from by rw [decide_eq_decide]; omega]
  rfl
theorem hangs_ok {sh : Sheet} (g : Good sh) (h0 : sh ≠ []) (hn : sh.length ≤ 1000) {S : Sto} : ∃ G, rf__law_hangs [dsh sh] S = .ok (.bl (whole sh)) (S ++ G) := by
  unfold rf__law_hangs runDef ev__law_hangs
  rw [show begins 4 [dsh sh] = [some (dsh sh), none, none, none] from rfl]
  rw [seq_next (ret_asg (lst1 (x := .int 0) fun S => c_ok))]
  simp only [List.set_cons_zero, List.set_cons_succ]
  have hlen : ∀ (S : Sto) (a b c : Option D), eL dLen (aCons (eVar 0) aNil) [some (dsh sh), a, b, c] S = .ok (.int (sh.length : Nat)) S := fun S a b c => (lenT_ok (xs := sh.map di) (var_ok rfl)).trans (by rw [List.length_map])
  rcases for_genI (st := fun _ => True) (b := bName 2) (body := (sSeq (sIf (eTest (eB dGe (eVar 2) (eL dLen (aCons (eVar 1) aNil))))
 (sRet (eC (.bl false)))
 sSkip)
 (sFor (iSeq (eB dIx (eVar 0) (eB dIx (eVar 1) (eVar 2)))) (bName 3)
 (sIf (eAndT (eTest (eB dGe (eVar 3) (eC (.int 0)))) (eTest (eB dNotIn (eVar 3) (eVar 1))))
 (sExpr (eMt mAppend (eVar 1) (aCons (eVar 3) aNil)))
 sSkip)))) (rngL 0 sh.length) (fun k ρ S' => (∃ a b, ρ = [some (dsh sh), some (.lst S.length), a, b]) ∧ S' = S ++ [(bfs sh k).map D.int] ∧ ∀ m, m < k → m < (bfs sh m).length) (fun F => whole sh = false ∧ ∃ G', F = .ret (.bl false) (S ++ G')) (fun _ _ _ _ => trivial) (fun k x ρ S' hx hI => by
      obtain ⟨⟨a, b, rfl⟩, rfl, hm⟩ := hI
      obtain ⟨hkn, rfl⟩ := rng_at hx
      refine ⟨_, rfl, ?_⟩
      simp only [List.set_cons_zero, List.set_cons_succ]
      have ok := okF_bfs g h0 k
      have t1 : eTest (eB dGe (eVar 2) (eL dLen (aCons (eVar 1) aNil))) [some (dsh sh), some (.lst S.length), some (.int k), b] (S ++ [(bfs sh k).map D.int]) = .ok (decide (((((bfs sh k).map D.int).length : Nat) : Int) ≤ (k : Int))) (S ++ [(bfs sh k).map D.int]) := test_ok (ge_ok (var_ok rfl) (len_ev rfl (at_end _ _)))
      rcases Nat.lt_or_ge k (bfs sh k).length with hl | hl
      · have hi := ok.2 _ (getD_mem hl)
        rw [if_no t1 (decide_eq_false (by rw [List.length_map]; omega))]
        obtain ⟨ρ2, e2, b2, rfl⟩ := add_loop (sh := sh) (v := 3) (e := eVar 3) (S := S) hn (fun ρ => ∃ b, ρ = [some (dsh sh), some (.lst S.length), some (.int (k : Nat)), b]) (fun ρ ⟨b, h⟩ => by rw [h]; rfl) (fun ρ d ⟨b, h⟩ => by rw [h]; exact ⟨_, rfl⟩) (fun ρ ⟨b, h⟩ => by rw [h]; simp) (at' sh ((bfs sh k).getD k 0)) (bfs sh k) _ ok (fun j hj => in_of g hi hj) ⟨b, rfl⟩
        refine .inl ⟨_, _, .inl (forT (show eB dIx (eVar 0) (eB dIx (eVar 1) (eVar 2)) _ _ = .ok (di (at' sh ((bfs sh k).getD k 0))) _ from b_ok (var_ok rfl) (b_ok (var_ok rfl) (var_ok rfl) (ix_lst (at_end _ _) (int_at' hl))) (ix_dsh hi)) e2), ⟨_, _, rfl⟩, ?_, fun m hm' => ?_⟩
        · rw [bfs, if_pos hl]
        · rcases Nat.lt_or_ge m k with q | q
          · exact hm m q
          · have : m = k := by omega
            subst this
            exact hl
      · rw [decide_eq_true (by rw [List.length_map]; omega)] at t1
        rw [seq_ret ((if_t t1).trans (ret_ret c_ok))]
        refine .inr ⟨.inl ⟨_, _, rfl⟩, ?_, _, rfl⟩
        have e := bfs_stay hl (sh.length - k)
        rw [show k + (sh.length - k) = sh.length by omega] at e
        unfold whole
        rw [e, decide_eq_false (by omega)]) [some (dsh sh), some (.lst S.length), none, none] (S ++ [[.int 0]]) ⟨⟨_, _, rfl⟩, rfl, fun m hm => by omega⟩ with ⟨ρ', S', e1, ⟨a, b, rfl⟩, rfl, hm⟩ | ⟨hw, G', e1⟩
  · rw [rngL_length] at hm
    rw [seq_next (for_rng (n := sh.length) (args1 (hlen _ _ _ _)) (by omega) e1), ret_ret c_ok]
    have hp := List.length_pos_iff.mpr h0
    have h1 := hm (sh.length - 1) (by omega)
    have h2 := bfs_mono sh (sh.length - 1)
    rw [show sh.length - 1 + 1 = sh.length by omega] at h2
    have h3 := okF_len (okF_bfs g h0 sh.length)
    refine ⟨[(bfs sh (rngL 0 sh.length).length).map D.int], ?_⟩
    unfold whole
    rw [decide_eq_true (by omega)]
    rfl
  · rw [seq_ret (for_rng (n := sh.length) (args1 (hlen _ _ _ _)) (by omega) e1), hw]
    exact ⟨G', rfl⟩
theorem sim_wholeG {rf : List D → Sto → Res D} (h : ∀ (sh : Sheet) (S : Sto), Good sh → sh ≠ [] → sh.length ≤ 1000 → ∃ G, rf [dsh sh] S = .ok (.bl (whole sh)) (S ++ G)) : ∀ ds S, Sim S (rf ds S) (sp__is_whole ds S) := by
  intro ds S
  unfold sp__is_whole
  split
  · split
    · rename_i sh hs
      split
      · rename_i q
        rw [shOf_eq hs]
        obtain ⟨G, e⟩ := h sh S q.1 q.2.1 q.2.2
        exact Sim.val e (by unfold MP.Below; trivial)
      · trivial
    · trivial
  · trivial
theorem sim__is_whole : ∀ ds S, Sim S (rf__is_whole ds S) (sp__is_whole ds S) := sim_wholeG fun sh S a b c => whole_ok' a b c
theorem sim__law_hangs : ∀ ds S, Sim S (rf__law_hangs ds S) (sp__law_hangs ds S) := sim_wholeG fun sh S a b c => hangs_ok a b c
theorem spwhole {sh : Sheet} (g : Good sh) (h0 : sh ≠ []) (hn : sh.length ≤ 1000) {S : Sto} : sp__is_whole [dsh sh] S = .ok (.bl (whole sh)) S := by
  unfold sp__is_whole
  simp only [shOf_dsh, g, hn, ne_eq, h0, not_false_eq_true, and_self, if_true]
theorem spwholeL {sh : Sheet} (g : Good sh) (h0 : sh ≠ []) (hn : sh.length ≤ 1000) {S : Sto} : sp__law_hangs [dsh sh] S = .ok (.bl (whole sh)) S := spwhole g h0 hn
end LawM
end
section
set_option Elab.async false
set_option linter.all false
set_option maxRecDepth 100000
set_option maxHeartbeats 1000000
/-! S10: lets_plan and is_plan. -/
namespace LawM
open PySem PySem.Spec PyProof.Rows L2 MP
theorem firstBad_find {n : Nat} : ∀ (xs : List D) (i : Nat), firstBad n i xs = ((xs.zipIdx i).find? fun p => !isCirc n p.2 p.1).map fun p => (("circle" : Str), D.int p.2)
  | [], i => rfl
  | d :: ds, i => by
    rw [firstBad, List.zipIdx_cons, List.find?_cons]
    by_cases h : isCirc n i d = true
    · rw [if_pos h]
      simp only [h, Bool.not_true]
      exact firstBad_find ds (i + 1)
    · rw [if_neg h]
      have : isCirc n i d = false := by simpa using h
      simp only [this, Bool.not_false]
      rfl
theorem spcirc {n i : Nat} {d : D} (h : VC d = true) {S : Sto} : sp__is_circle [.int n, .int i, d] S = .ok (.bl (isCirc n i d)) S := by
  unfold sp__is_circle
  simp only [h, Int.toNat_natCast, Int.natCast_nonneg, and_self, if_true]
theorem spcircL {n i : Nat} {d : D} (h : VC d = true) {S : Sto} : sp__law_circle [d, .int i, .int n] S = .ok (.bl (isCirc n i d)) S := by
  unfold sp__law_circle
  simp only [h, Int.toNat_natCast, Int.natCast_nonneg, and_self, if_true]
theorem zipD {xs : List D} {z : D × Nat} (h : z ∈ xs.zipIdx) : xs[z.2]? = some z.1 := List.mk_mem_zipIdx_iff_getElem?.mp (show (z.1, z.2) ∈ xs.zipIdx from h)
theorem shL_all : ∀ {xs : List D}, (∀ d ∈ xs, ∃ c, circOf d = some c) → ∃ sh, shL xs = some sh
  | [], _ => ⟨[], rfl⟩
  | d :: ds, h => by
    obtain ⟨c, hc⟩ := h d (by simp)
    obtain ⟨sh, hs⟩ := shL_all fun d hd => h d (List.mem_cons_of_mem _ hd)
    exact ⟨c :: sh, by unfold shL; rw [hc, hs]; rfl⟩
/-- all are circles -/
theorem good_of {xs : List D} (h : firstBad xs.length 0 xs = none) : ∃ sh, xs = sh.map di ∧ shL xs = some sh ∧ Good sh := by
  rw [firstBad_find, Option.map_eq_none_iff, List.find?_eq_none] at h
  have key : ∀ (i : Nat) (d : D), xs[i]? = some d → isCirc xs.length i d = true := fun i d e => by
    have := h (d, i) (List.mk_mem_zipIdx_iff_getElem?.mpr e)
    simpa using this
  obtain ⟨sh, hs⟩ := shL_all (xs := xs) fun d hd => by
    obtain ⟨i, e⟩ := List.getElem?_of_mem hd
    have := key i d e
    unfold isCirc at this
    cases hc : circOf d with
    | none => rw [hc] at this; cases this
    | some c => exact ⟨c, rfl⟩
  have e := shL_eq hs
  refine ⟨sh, e, hs, fun i c hc => ?_⟩
  have := key i (di c) (by rw [e, List.getElem?_map, hc]; rfl)
  unfold isCirc at this
  rw [circOf_di] at this
  rw [e, List.length_map] at this
  exact of_decide_eq_true this
theorem tied_of {sh : Sheet} (h : (pairs sh).find? (tieBad sh) = none) : Tied sh := fun i c hc j hj h0 => by
  rw [List.find?_eq_none] at h
  have hl := (List.getElem?_eq_some_iff.mp hc).1
  have hi : inS sh i := ⟨by omega, by omega⟩
  have ha : at' sh i = c := by
    have := at_some hi
    rw [Int.toNat_natCast, hc] at this
    exact (Option.some.inj this).symm
  have := h _ (mem_pairs hi (by rw [ha]; exact hj))
  unfold tieBad at this
  simpa [h0] using this
theorem faced_of {sh : Sheet} (h : (pairs sh).find? (faceBad sh) = none) : Faced sh := fun p hp => by
  rw [List.find?_eq_none] at h
  simpa using h p hp
theorem spties {sh : Sheet} (g : Good sh) (hn : sh.length ≤ 1000) {S : Sto} : sp__check_ties [dsh sh] S = (match (pairs sh).find? (tieBad sh) with
      | some p => .exc "InvalidPaper" ["at", "word"] [(badAt "tie" p).2, .str "tie"] S
      | none => .ok .non S) := by
  unfold sp__check_ties
  simp only [shOf_dsh, g, hn, and_self, if_true]
  all_goals (cases (pairs sh).find? (tieBad sh) <;> rfl)
theorem spfaces {sh : Sheet} (g : Good sh) (t : Tied sh) (hn : sh.length ≤ 1000) {S : Sto} : sp__check_faces [dsh sh] S = (match (pairs sh).find? (faceBad sh) with
      | some p => .exc "InvalidPaper" ["at", "word"] [(badAt "face" p).2, .str "face"] S
      | none => .ok .non S) := by
  unfold sp__check_faces
  simp only [shOf_dsh, g, t, hn, and_self, if_true]
  all_goals (cases (pairs sh).find? (faceBad sh) <;> rfl)
theorem expr_exc {e : Ev} {ρ : MP.Env} {S S1 : Sto} {n : Str} {ns : List Str} {ds : List D} (h : e ρ S = .exc n ns ds S1) : sExpr e ρ S = .exc n ns ds ρ S1 := by
  unfold sExpr
  rw [h]
  rfl
theorem tup_4 {a b c d : Int} {ρ : MP.Env} {S : Sto} : eTup (aCons (eU dNeg (eC (.int a))) (aCons (eU dNeg (eC (.int b))) (aCons (eU dNeg (eC (.int c))) (aCons (eU dNeg (eC (.int d))) aNil)))) ρ S = .ok (.tup [.int (-a), .int (-b), .int (-c), .int (-d)]) S := by
  simp [eTup, eL, aCons, aNil, eU, eC, dNeg, dTup_ok]
/-- the lower ones, circle by circle -/
theorem lc2_low {b : D → MP.Env → Option MP.Env} {src1 : MP.Env → Sto → Res Src} {b1 : D → MP.Env → Option MP.Env} {t1 : EvB} {e : Ev} {vs1 : List Nat} {ρ : MP.Env} {S : Sto} (m : List Int × Nat → D) : ∀ (zs : List (List Int × Nat)) (acc : List D), acc.length + (zs.flatMap prs).length ≤ 1000000 →
    (∀ z ∈ zs, ∃ ρ1, b (m z) ρ = some ρ1 ∧ src1 ρ1 S = .ok ⟨z.1.map D.int, fun _ => True⟩ S ∧ ∀ j : Int, ∃ ρ2, b1 (.int j) (wipeE ρ1 vs1) = some ρ2 ∧ t1 ρ2 S = .ok (decide (j < z.2)) S ∧ e ρ2 S = .ok (.int j) S) →
    lc2Loop (fun _ => True) b tTrue src1 b1 t1 e vs1 ρ (zs.map m) acc S = .ok (acc ++ ((zs.flatMap prs).filter fun p => decide (p.2 < p.1)).map fun p => D.int p.2) S
  | [], acc, _, _ => by
    rw [List.map_nil, lc2Loop]
    simp
  | z :: zs, acc, hl, h => by
    obtain ⟨ρ1, h1, h2, h3⟩ := h z (by simp)
    rw [List.flatMap_cons, List.length_append] at hl
    have hp : (prs z).length = z.1.length := by unfold prs; rw [List.length_map]
    have inner := lc_sel (st := fun _ => True) (b := b1) (t := t1) (e := e) (ρ := wipeE ρ1 vs1) (fun q : Int × Int => D.int q.2) (fun q => decide (q.2 < q.1)) (fun q => D.int q.2) (S := S) (fun _ => trivial) (prs z) acc
    have inn : lcLoop (fun _ => True) b1 t1 e (wipeE ρ1 vs1) (z.1.map D.int) acc S = .ok (acc ++ ((prs z).filter fun q => decide (q.2 < q.1)).map fun q => D.int q.2) S := by
      rw [← prs_map z]
      clear inner
      have gen : ∀ (ps : List (Int × Int)) (acc : List D), (∀ q ∈ ps, q.1 = z.2) → acc.length + ps.length ≤ 1000000 → lcLoop (fun _ => True) b1 t1 e (wipeE ρ1 vs1) (ps.map fun q => D.int q.2) acc S = .ok (acc ++ (ps.filter fun q => decide (q.2 < q.1)).map fun q => D.int q.2) S := fun ps => by
        induction ps with
        | nil => intro acc _ _; rw [List.map_nil, lc_nil trivial]; simp
        | cons q ps ih =>
          intro acc hq hl
          simp only [List.length_cons] at hl
          obtain ⟨ρ2, k1, k2, k3⟩ := h3 q.2
          rw [List.map_cons]
          by_cases hlt : q.2 < q.1
          · rw [← hq q (by simp)] at k2
            rw [lc_cons trivial k1 (by rw [k2, decide_eq_true hlt]) k3 (by omega), ih _ (fun q' hq' => hq q' (by simp [hq'])) (by simp; omega), List.filter_cons_of_pos (by exact decide_eq_true hlt)]
            simp
          · rw [← hq q (by simp), decide_eq_false hlt] at k2
            rw [lcLoop]
            simp only [if_true, k1, k2]
            rw [List.filter_cons_of_neg (by simpa using hlt)]
            exact ih acc (fun q' hq' => hq q' (by simp [hq'])) (by omega)
      exact gen (prs z) acc (fun q hq => (prs_mem hq).1) (by omega)
    rw [List.map_cons, lc2Loop]
    simp only [if_true, h1, tTrue_ok, h2, inn, goOn]
    have hle : ((prs z).filter fun q => decide (q.2 < q.1)).length ≤ (prs z).length := List.length_filter_le _ _
    rw [lc2_low m zs _ (by rw [List.length_append, List.length_map]; omega) fun y hy => h y (List.mem_cons_of_mem _ hy)]
    simp [List.flatMap_cons, List.filter_append]
theorem pairs_len {sh : Sheet} {m : Nat} (h : ∀ c ∈ sh, c.length ≤ m) : (pairs sh).length ≤ m * sh.length := by
  have gen : ∀ (zs : List (List Int × Nat)), (∀ z ∈ zs, z.1.length ≤ m) → (zs.flatMap prs).length ≤ m * zs.length := fun zs => by
    induction zs with
    | nil => intro _; simp
    | cons z zs ih =>
      intro h
      rw [List.flatMap_cons, List.length_append, List.length_cons, Nat.mul_succ]
      have h1 := h z (by simp)
      have h2 := ih fun y hy => h y (by simp [hy])
      have : (prs z).length = z.1.length := by unfold prs; rw [List.length_map]
      omega
  have := gen sh.zipIdx fun z hz => h z.1 (by
    obtain ⟨a, b⟩ := zip_at hz
    rw [← b]
    exact List.mem_of_getElem? (at_some a))
  rw [List.length_zipIdx] at this
  exact this
def RexS (S : Sto) (o : Option (Str × D)) (r : Res D) : Prop := match o with
  | some (w, a) => ∃ G, r = .exc "InvalidPaper" ["at", "word"] [a, .str w] (S ++ G)
  | none => False
theorem lets_sh {sh : Sheet} (g : Good sh) (h0 : sh ≠ []) (hn : sh.length ≤ 100) (hc : ∀ c ∈ sh, c.length ≤ 1000) {S : Sto} {a b : Option D} : ∀ G0, ∃ G, flowRes ((sSeq (sExpr (eCall 1 sp__check_ties (aCons (eVar 0) aNil)))
 (sSeq (sExpr (eCall 1 sp__check_faces (aCons (eVar 0) aNil)))
 (sSeq (sFor (iSeq (eTup (aCons (eU dNeg (eC (.int 4))) (aCons (eU dNeg (eC (.int 3))) (aCons (eU dNeg (eC (.int 2))) (aCons (eU dNeg (eC (.int 1))) aNil)))))) (bName 4)
 (sIf (eNotT (eTest (eCall 2 sp__has_row (aCons (eVar 0) (aCons (eVar 4) aNil)))))
 (sRaise "InvalidPaper" ["word", "at"] (aCons (eC (.str "side")) (aCons (eVar 4) aNil)))
 sSkip))
 (sSeq (sIf (eNotT (eTest (eCall 1 sp__is_whole (aCons (eVar 0) aNil))))
 (sRaise "InvalidPaper" ["word", "at"] (aCons (eC (.str "parts")) (aCons (eU dNeg (eC (.int 1))) aNil)))
 sSkip)
 (sSeq (sAsg 5 (eLc2 (iRange enuS (aCons (eVar 0) aNil)) (bTup 2 (bCons (bName 2) (bCons (bName 3) bNil))) tTrue (iSeq (eVar 3)) (bName 6) (eTest (eB dLt (eVar 6) (eVar 2))) (eVar 6) [2, 3, 6] [6]))
 (sSeq (sIf (eTest (eB dNe (eL dLen (aCons (eVar 5) aNil)) (eB dAdd (eB dMul (eC (.int 3)) (eVar 1)) (eC (.int 1)))))
 (sRaise "InvalidPaper" ["word", "at"] (aCons (eC (.str "count")) (aCons (eU dNeg (eC (.int 1))) aNil)))
 sSkip)
 (sRet (eVar 1)))))))) [some (dsh sh), some (.int (sh.length : Nat)), a, b, none, none, none] (S ++ G0)) = (match faultSh sh with
    | some (w, a) => .exc "InvalidPaper" ["at", "word"] [a, .str w] (S ++ G)
    | none => .ok (.int (sh.length : Nat)) (S ++ G)) := by
  intro G0
  unfold faultSh
  have c1 : eCall 1 sp__check_ties (aCons (eVar 0) aNil) [some (dsh sh), some (.int (sh.length : Nat)), a, b, none, none, none] (S ++ G0) = _ := (call1 (var_ok (d := dsh sh) rfl)).trans (spties g (by omega))
  cases h1 : (pairs sh).find? (tieBad sh) with
  | some p =>
    rw [h1] at c1
    rw [seq_exc (expr_exc c1)]
    exact ⟨G0, rfl⟩
  | none =>
    rw [h1] at c1
    have t := tied_of h1
    rw [seq_next (expr_ok c1)]
    have c2 : eCall 1 sp__check_faces (aCons (eVar 0) aNil) [some (dsh sh), some (.int (sh.length : Nat)), a, b, none, none, none] (S ++ G0) = _ := (call1 (var_ok (d := dsh sh) rfl)).trans (spfaces g t (by omega))
    cases h2 : (pairs sh).find? (faceBad sh) with
    | some p =>
      rw [h2] at c2
      rw [seq_exc (expr_exc c2)]
      exact ⟨G0, rfl⟩
    | none =>
      rw [h2] at c2
      have f := faced_of h2
      rw [seq_next (expr_ok c2)]
      have key := for_find (st := fun _ => True) (b := bName 4) (body := (sIf (eNotT (eTest (eCall 2 sp__has_row (aCons (eVar 0) (aCons (eVar 4) aNil)))))
 (sRaise "InvalidPaper" ["word", "at"] (aCons (eC (.str "side")) (aCons (eVar 4) aNil)))
 sSkip)) D.int (fun s => !hasRow sh s) (fun ρ => ∃ x, ρ = [some (dsh sh), some (.int (sh.length : Nat)), a, b, x, none, none]) (fun s F => ∃ ρ G, F = .exc "InvalidPaper" ["at", "word"] [.int s, .str "side"] ρ (S ++ G)) (S := S) (fun _ => trivial) [-4, -3, -2, -1] (fun s hs ρ G hE => by
        obtain ⟨x, rfl⟩ := hE
        refine ⟨_, rfl, ?_⟩
        simp only [List.set_cons_zero, List.set_cons_succ]
        have hs4 : -4 ≤ s ∧ s < 0 := by simp at hs; omega
        have t2 := not_b (test_ok ((call2 (F := sp__has_row) (var_ok (i := 0) (d := dsh sh) (ρ := [some (dsh sh), some (.int (sh.length : Nat)), a, b, some (.int s), none, none]) (S := S ++ G) rfl) (var_ok (i := 4) (d := .int s) rfl)).trans (sphas g t f hs4 (by omega))))
        refine ⟨fun hb => ?_, fun hb => ?_⟩
        · rw [hb] at t2
          exact ⟨_, G, if_s t2, _, rfl⟩
        · rw [hb] at t2
          rw [(if_t t2).trans (raise2 c_ok (var_ok (d := .int s) rfl))]
          exact ⟨.inr ⟨_, _, _, _, _, rfl⟩, _, _, rfl⟩) [some (dsh sh), some (.int (sh.length : Nat)), a, b, none, none, none] G0 ⟨_, rfl⟩
      cases h3 : [-4, -3, -2, -1].find? fun s => !hasRow sh s with
      | some s =>
        obtain ⟨k1, ρ', G, e⟩ := key.2 s h3
        have e' := forT (e := (eTup (aCons (eU dNeg (eC (.int 4))) (aCons (eU dNeg (eC (.int 3))) (aCons (eU dNeg (eC (.int 2))) (aCons (eU dNeg (eC (.int 1))) aNil)))))) tup_4 e
        rw [seq_exc e']
        exact ⟨G, rfl⟩
      | none =>
        obtain ⟨ρ', G, e, x, rfl⟩ := key.1 h3
        have e' := forT (e := (eTup (aCons (eU dNeg (eC (.int 4))) (aCons (eU dNeg (eC (.int 3))) (aCons (eU dNeg (eC (.int 2))) (aCons (eU dNeg (eC (.int 1))) aNil)))))) tup_4 e
        rw [seq_next e']
        have t3 := not_b (test_ok ((call1 (F := sp__is_whole) (var_ok (i := 0) (d := dsh sh) (ρ := [some (dsh sh), some (.int (sh.length : Nat)), a, b, x, none, none]) (S := S ++ G) rfl)).trans (spwhole g h0 (by omega))))
        cases h4 : whole sh with
        | false =>
          rw [h4] at t3
          rw [seq_exc ((if_t t3).trans (raise2 c_ok (neg_ok c_ok)))]
          exact ⟨G, rfl⟩
        | true =>
          rw [h4] at t3
          rw [if_no t3 rfl]
          have hp := pairs_len hc
          have e5 := lc2_low (b := bTup 2 (bCons (bName 2) (bCons (bName 3) bNil))) (src1 := iSeq (eVar 3)) (b1 := bName 6) (t1 := eTest (eB dLt (eVar 6) (eVar 2))) (e := eVar 6) (vs1 := [6]) (ρ := [some (dsh sh), some (.int (sh.length : Nat)), none, none, x, none, none]) (S := S ++ G) (fun p => D.wk [.int p.2, di p.1]) sh.zipIdx [] (by
            show ([] : List D).length + (pairs sh).length ≤ 1000000
            have : 1000 * sh.length ≤ 1000 * 100 := Nat.mul_le_mul_left _ hn
            simp
            omega) (fun z hz => ⟨_, rfl, rfl, fun j => ⟨_, rfl, test_ok (lt_ok (var_ok rfl) (var_ok rfl)), var_ok rfl⟩⟩)
          have e6 : eLc2 (iRange enuS (aCons (eVar 0) aNil)) (bTup 2 (bCons (bName 2) (bCons (bName 3) bNil))) tTrue (iSeq (eVar 3)) (bName 6) (eTest (eB dLt (eVar 6) (eVar 2))) (eVar 6) [2, 3, 6] [6] [some (dsh sh), some (.int (sh.length : Nat)), a, b, x, none, none] (S ++ G) = .ok (.lst (S ++ G).length) (S ++ G ++ [((pairs sh).filter fun p => decide (p.2 < p.1)).map fun p => D.int p.2]) := by
            unfold eLc2 iRange
            rw [args1 (var_ok (d := dsh sh) rfl), Res.bind_ok]
            show (Res.ok _ (S ++ G)).bind _ = _
            rw [Res.bind_ok]
            rw [enu_sh]
            show (lc2Loop (fun _ => True) _ _ _ _ _ _ _ [some (dsh sh), some (.int (sh.length : Nat)), none, none, x, none, none] _ _ _).bind _ = _
            rw [e5]
            rfl
          rw [seq_next (ret_asg e6)]
          simp only [List.set_cons_zero, List.set_cons_succ]
          have t7 : eTest (eB dNe (eL dLen (aCons (eVar 5) aNil)) (eB dAdd (eB dMul (eC (.int 3)) (eVar 1)) (eC (.int 1)))) [some (dsh sh), some (.int (sh.length : Nat)), a, b, x, some (.lst (S ++ G).length), none] (S ++ G ++ [((pairs sh).filter fun p => decide (p.2 < p.1)).map fun p => D.int p.2]) = .ok (!decide (((((pairs sh).filter fun p => decide (p.2 < p.1)).map fun p => D.int p.2).length : Int) = 3 * (sh.length : Nat) + 1)) (S ++ G ++ [((pairs sh).filter fun p => decide (p.2 < p.1)).map fun p => D.int p.2]) :=
            test_ok (ne_ok (len_ev rfl (at_end _ _)) (add_ok (mul_ok (mulA (a := 10) (b := 64) (by unfold Bt; decide) (by unfold Bt; simp; omega) (by decide)) c_ok (var_ok rfl)) c_ok))
          by_cases h5 : lows sh = 3 * sh.length + 1
          · rw [decide_eq_true (by rw [List.length_map]; show ((lows sh : Nat) : Int) = _; omega)] at t7
            rw [if_no t7 rfl, ret_ret (var_ok rfl)]
            refine ⟨G ++ [((pairs sh).filter fun p => decide (p.2 < p.1)).map fun p => D.int p.2], ?_⟩
            rw [if_pos h5, if_pos True.intro, ← List.append_assoc]
            rfl
          · rw [decide_eq_false (by rw [List.length_map]; show ¬ ((lows sh : Nat) : Int) = _; omega)] at t7
            rw [seq_exc ((if_t t7).trans (raise2 c_ok (neg_ok c_ok)))]
            refine ⟨G ++ [((pairs sh).filter fun p => decide (p.2 < p.1)).map fun p => D.int p.2], ?_⟩
            rw [if_neg h5, if_pos True.intro, ← List.append_assoc]
            rfl
/-- the answer of lets_plan -/
def letsR (d : D) (S : Sto) : Res D := match fault d with
  | some (w, a) => .exc "InvalidPaper" ["at", "word"] [a, .str w] S
  | none => .ok (.int ((match d with
    | .tup xs => xs
    | _ => []).length : Nat)) S
theorem pln_VP {d : D} (h : VP d = true) : pln d = true := by
  cases d <;> first
    | rfl
    | exact h
theorem lets_ok {d : D} (h : VP d = true) {S : Sto} : ∃ G, rf_lets_plan [d] S = letsR d (S ++ G) := by
  have hp := pln_VP h
  unfold rf_lets_plan runDef ev_lets_plan letsR
  rw [show begins 7 [d] = [some d, none, none, none, none, none, none] from rfl]
  have t1 := not_b (test_ok (u_ok (g := dIsi "tuple") (var_ok (i := 0) (d := d) (ρ := [some d, none, none, none, none, none, none]) (S := S) rfl) (isi_tup hp)))
  by_cases ht : (tyName d == "tuple") = true
  · cases d <;> first
      | (simp [tyName] at ht; done)
      | skip
    rename_i xs
    rw [ht] at t1
    have hv : xs.length ≤ 100 ∧ ∀ d ∈ xs, VC d = true := by
      unfold VP at h
      simpa using h
    have t2 : eTest (eB dEq (eL dLen (aCons (eVar 0) aNil)) (eC (.int 0))) [some (.tup xs), none, none, none, none, none, none] S = .ok (decide (((xs.length : Nat) : Int) = 0)) S := test_ok (eq_ok (lenT_ok (var_ok rfl)) c_ok)
    by_cases h0 : xs = []
    · subst h0
      rw [decide_eq_true (by rfl)] at t2
      rw [seq_exc ((if_t (or_2 t1 t2)).trans (raise2 c_ok (neg_ok c_ok)))]
      exact ⟨[], by rw [List.append_nil]; rfl⟩
    · have hl := List.length_pos_iff.mpr h0
      rw [decide_eq_false (by omega)] at t2
      rw [if_no (or_2 t1 t2) rfl, seq_next (ret_asg (lenT_ok (var_ok rfl)))]
      simp only [List.set_cons_zero, List.set_cons_succ]
      have key := for_find (st := fun _ => True) (b := bTup 2 (bCons (bName 2) (bCons (bName 3) bNil))) (body := (sIf (eNotT (eTest (eCall 3 sp__is_circle (aCons (eVar 1) (aCons (eVar 2) (aCons (eVar 3) aNil))))))
 (sRaise "InvalidPaper" ["word", "at"] (aCons (eC (.str "circle")) (aCons (eVar 2) aNil)))
 sSkip)) (fun p : D × Nat => D.wk [.int p.2, p.1]) (fun p => !isCirc xs.length p.2 p.1) (fun ρ => ∃ a b, ρ = [some (.tup xs), some (.int (xs.length : Nat)), a, b, none, none, none]) (fun p F => ∃ ρ G, F = .exc "InvalidPaper" ["at", "word"] [.int p.2, .str "circle"] ρ (S ++ G)) (S := S) (fun _ => trivial) xs.zipIdx (fun z hz ρ G hE => by
          obtain ⟨a, b, rfl⟩ := hE
          refine ⟨_, rfl, ?_⟩
          have t3 : eNotT (eTest (eCall 3 sp__is_circle (aCons (eVar 1) (aCons (eVar 2) (aCons (eVar 3) aNil))))) [some (.tup xs), some (.int (xs.length : Nat)), some (.int z.2), some z.1, none, none, none] (S ++ G) = .ok (!isCirc xs.length z.2 z.1) (S ++ G) := not_b (test_ok ((call3 (var_ok rfl) (var_ok rfl) (var_ok rfl)).trans (spcirc (hv.2 _ (List.mem_of_getElem? (zipD hz))))))
          refine ⟨fun hb => ?_, fun hb => ?_⟩
          · rw [hb] at t3
            exact ⟨_, G, if_s t3, _, _, rfl⟩
          · rw [hb] at t3
            have t4 := (if_t (b := sSkip) t3).trans (raise2 (n := "InvalidPaper") (f1 := "word") (f2 := "at") (c_ok (d := .str "circle")) (var_ok (i := 2) (d := .int z.2) rfl))
            exact ⟨.inr ⟨_, _, _, _, _, t4⟩, _, _, t4⟩) [some (.tup xs), some (.int (xs.length : Nat)), none, none, none, none, none] [] ⟨_, _, rfl⟩
      rw [List.append_nil] at key
      have fe : fault (.tup xs) = (firstBad xs.length 0 xs <|> (shL xs).bind faultSh) := by
        exact if_neg h0
      rw [fe]
      cases hf : xs.zipIdx.find? fun p => !isCirc xs.length p.2 p.1 with
      | some p =>
        obtain ⟨k1, ρ', G, e⟩ := key.2 p hf
        rw [← enuD_zip] at e
        rw [seq_exc (forE (var_ok rfl) e)]
        refine ⟨G, ?_⟩
        rw [firstBad_find, hf]
        rfl
      | none =>
        obtain ⟨ρ', G, e, a, b, rfl⟩ := key.1 hf
        rw [← enuD_zip] at e
        rw [seq_next (forE (var_ok rfl) e)]
        have hb : firstBad xs.length 0 xs = none := by
          rw [firstBad_find, hf]
          rfl
        rw [hb]
        obtain ⟨sh, e1, e2, g⟩ := good_of hb
        rw [e2]
        have e3 : xs.length = sh.length := by rw [e1, List.length_map]
        rw [e3] at hv ⊢
        obtain ⟨G', e'⟩ := lets_sh (sh := sh) g (fun z => h0 (by rw [e1, z]; rfl)) hv.1 (fun c hc => by
          have := hv.2 (di c) (by rw [e1]; exact List.mem_map.mpr ⟨c, hc, rfl⟩)
          unfold VC di at this
          simp at this
          exact this.1) (S := S) (a := a) (b := b) G
        rw [show D.tup xs = dsh sh from by rw [e1]; rfl]
        refine ⟨G', e'.trans ?_⟩
        rfl
  · have ht : (tyName d == "tuple") = false := by simpa using ht
    rw [ht] at t1
    rw [seq_exc ((if_t (or_t t1)).trans (raise2 c_ok (neg_ok c_ok)))]
    refine ⟨[], ?_⟩
    rw [List.append_nil]
    cases d <;> first
      | rfl
      | (simp [tyName] at ht)
def atInt : D → Bool
  | .int _ => true
  | .tup [.int _, .int _] => true
  | _ => false
theorem find_map {α : Type} {l : List α} {p : α → Bool} {f : α → Str × D} {w : Str} {a : D} (hf : ∀ x, atInt (f x).2 = true) (h : (l.find? p).map f = some (w, a)) : atInt a = true := by
  cases q : l.find? p with
  | none => rw [q] at h; cases h
  | some x =>
    rw [q] at h
    have := hf x
    have e : f x = (w, a) := Option.some.inj h
    rw [e] at this
    exact this
theorem faultSh_at {sh : Sheet} {w : Str} {a : D} (h : faultSh sh = some (w, a)) : atInt a = true := by
  unfold faultSh at h
  rcases h1 : ((pairs sh).find? (tieBad sh)).map (badAt "tie") with _ | ⟨w1, a1⟩
  · rw [h1] at h
    rcases h2 : ((pairs sh).find? (faceBad sh)).map (badAt "face") with _ | ⟨w1, a1⟩
    · rw [h2] at h
      rcases h3 : ([-4, -3, -2, -1].find? fun s => !hasRow sh s).map fun s => fl "side" (.int s) with _ | ⟨w1, a1⟩
      · rw [h3] at h
        by_cases h4 : whole sh = true
        · rw [if_pos h4] at h
          by_cases h5 : lows sh = 3 * sh.length + 1
          · rw [if_pos h5] at h
            cases h
          · rw [if_neg h5] at h
            cases h
            rfl
        · rw [if_neg h4] at h
          cases h
          rfl
      · rw [h3] at h
        cases h
        exact find_map (fun _ => rfl) h3
    · rw [h2] at h
      cases h
      exact find_map (fun _ => rfl) h2
  · rw [h1] at h
    cases h
    exact find_map (fun _ => rfl) h1
theorem fault_at {d : D} {w : Str} {a : D} (h : fault d = some (w, a)) : atInt a = true := by
  unfold fault at h
  split at h
  · rename_i xs
    split at h
    · cases h
      rfl
    · rcases h1 : firstBad xs.length 0 xs with _ | ⟨w1, a1⟩
      · rw [h1] at h
        cases h2 : shL xs with
        | none => rw [h2] at h; cases h
        | some sh =>
          rw [h2] at h
          exact faultSh_at h
      · rw [h1] at h
        cases h
        rw [firstBad_find] at h1
        exact find_map (fun _ => rfl) h1
  · cases h
    rfl
theorem atInt_below {a : D} (h : atInt a = true) (n : Nat) : MP.Below n a := by
  unfold atInt at h
  split at h
  · unfold MP.Below
    trivial
  · simp [MP.Below, BelowL]
  · cases h
theorem sp_lets {d : D} (h : VP d = true) {S : Sto} : sp_lets_plan [d] S = letsR d S := by
  have hp := pln_VP h
  unfold sp_lets_plan letsR
  match d, h, hp with
  | .tup xs, h, hp =>
    simp only [h, if_true]
    all_goals (cases fault (.tup xs) <;> rfl)
  | .non, h, hp => simp only [hp, if_true]; rfl
  | .bl _, h, hp => simp only [hp, if_true]; rfl
  | .int _, h, hp => simp only [hp, if_true]; rfl
  | .str _, h, hp => simp only [hp, if_true]; rfl
  | .lst _, h, hp => simp only [hp, if_true]; rfl
  | .frl _, h, hp => simp only [hp, if_true]; rfl
theorem sim_lets {d : D} (h : VP d = true) {S : Sto} : Sim S (rf_lets_plan [d] S) (letsR d S) := by
  obtain ⟨G, e⟩ := lets_ok h (S := S)
  rw [e]
  unfold letsR
  cases hf : fault d with
  | none => exact Sim.val rfl (by unfold MP.Below; trivial)
  | some p =>
    obtain ⟨w, a⟩ := p
    refine Sim.exc rfl ?_
    unfold BelowL BelowL BelowL
    exact ⟨atInt_below (fault_at hf) _, by unfold MP.Below; trivial, trivial⟩
theorem sim_lets_plan : ∀ ds S, Sim S (rf_lets_plan ds S) (sp_lets_plan ds S) := by
  intro ds S
  match ds with
  | [] => trivial
  | _ :: _ :: _ =>
    unfold sp_lets_plan
    split
    · rename_i q; cases q
    · rename_i q; cases q
    · trivial
  | [d] =>
    by_cases h : VP d = true
    · rw [sp_lets h]
      exact sim_lets h
    · have : sp_lets_plan [d] S = .stuck := by
        unfold sp_lets_plan
        cases d <;> first
          | (simp only [h]; rfl)
          | (exact if_neg h)
          | (exact if_neg (fun z => h z))
      rw [this]
      trivial
theorem try_hit {dec : Str → Option Bool} {body suite : Es} {ρ ρ' : MP.Env} {S S' : Sto} {n : Str} {ns : List Str} {ds : List D} (h : body ρ S = .exc n ns ds ρ' S') (hd : dec n = some true) : sTry dec body suite ρ S = suiteEnd S' (suite ρ' S') := by
  unfold sTry
  rw [h]
  simp only [hd]
theorem is_ok {d : D} (h : VP d = true) {S : Sto} : rf_is_plan [d] S = .ok (.bl (fault d).isNone) S := by
  unfold rf_is_plan runDef ev_is_plan
  rw [show begins 1 [d] = [some d] from rfl]
  have c := (call1 (F := sp_lets_plan) (var_ok (i := 0) (d := d) (ρ := [some d]) (S := S) rfl)).trans (sp_lets h)
  unfold letsR at c
  cases hf : fault d with
  | none =>
    rw [hf] at c
    have e : sTry (dec1 "InvalidPaper") (sExpr (eCall 1 sp_lets_plan (aCons (eVar 0) aNil))) (sRet (eC (.bl false))) [some d] S = .next [some d] S := by
      unfold sTry
      rw [expr_ok c]
    rw [seq_next e, ret_ret c_ok]
    rfl
  | some p =>
    obtain ⟨w, a⟩ := p
    rw [hf] at c
    have e : sTry (dec1 "InvalidPaper") (sExpr (eCall 1 sp_lets_plan (aCons (eVar 0) aNil))) (sRet (eC (.bl false))) [some d] S = .ret (.bl false) S := by
      rw [try_hit (expr_exc c) (by unfold dec1; rw [if_pos rfl]), ret_ret c_ok]
      unfold suiteEnd
      exact keepIf_pos ⟨rfl, rfl⟩
    rw [seq_ret e]
    rfl
theorem sim_is_plan : ∀ ds S, Sim S (rf_is_plan ds S) (sp_is_plan ds S) := by
  intro ds S
  unfold sp_is_plan
  split
  · split
    · rename_i h
      exact simV (is_ok h) (by unfold MP.Below; trivial)
    · trivial
  · trivial
end LawM
end
section
set_option Elab.async false
set_option linter.all false
set_option maxRecDepth 100000
set_option maxHeartbeats 1000000
/-! S11: the law's own reading of the faults. -/
namespace LawM
open PySem PySem.Spec PyProof.Rows L2 MP
theorem pairs_mem {sh : Sheet} {p : Int × Int} (h : p ∈ pairs sh) : inS sh p.1 ∧ p.2 ∈ at' sh p.1 := by
  unfold pairs at h
  obtain ⟨z, hz, hp⟩ := List.mem_flatMap.mp h
  obtain ⟨j, hj, rfl⟩ := List.mem_map.mp hp
  obtain ⟨a, b⟩ := zip_at hz
  exact ⟨a, by show j ∈ at' sh z.2; rw [b]; exact hj⟩
theorem pairs_nd {sh : Sheet} (g : Good sh) : (pairs sh).Nodup := by
  unfold pairs
  rw [List.nodup_iff_pairwise_ne, List.pairwise_flatMap]
  refine ⟨fun z hz => ?_, ?_⟩
  · obtain ⟨a, b⟩ := zip_at hz
    have nd := nd_at g a
    rw [b, List.nodup_iff_pairwise_ne] at nd
    rw [List.pairwise_map]
    exact nd.imp fun {x y} q e => q (Prod.mk.inj e).2
  · have h : (sh.zipIdx.map (·.2)).Pairwise (· < ·) := by
      rw [List.zipIdx_map_snd]
      exact List.pairwise_lt_range'
    rw [List.pairwise_map] at h
    refine h.imp fun {a b} q x hx y hy e => ?_
    obtain ⟨j, _, rfl⟩ := List.mem_map.mp hx
    obtain ⟨k, _, rfl⟩ := List.mem_map.mp hy
    have := (Prod.mk.inj e).1
    omega
def fA (p : Int × Int) : Bool := decide (0 ≤ p.2 ∧ p.2 < p.1)
def fB (p : Int × Int) : Bool := decide (0 ≤ p.2 ∧ p.1 < p.2)
def fN (p : Int × Int) : Bool := decide (p.2 < 0)
theorem parts_len : ∀ (l : List (Int × Int)), (∀ p ∈ l, p.1 ≠ p.2 ∧ 0 ≤ p.1) → l.length = (l.filter fA).length + (l.filter fB).length + (l.filter fN).length ∧ (l.filter fun p => decide (p.2 < p.1)).length = (l.filter fA).length + (l.filter fN).length
  | [], _ => ⟨rfl, rfl⟩
  | p :: l, h => by
    obtain ⟨h1, h2⟩ := parts_len l fun q hq => h q (by simp [hq])
    have hp := h p (by simp)
    rcases Int.lt_or_le p.2 0 with q | q
    · have a : fA p = false := decide_eq_false (by omega)
      have b : fB p = false := decide_eq_false (by omega)
      have c : fN p = true := decide_eq_true q
      have d : decide (p.2 < p.1) = true := decide_eq_true (by omega)
      simp only [List.filter_cons, a, b, c, d, if_true, List.length_cons, Bool.false_eq_true, if_false]
      omega
    · have c : fN p = false := decide_eq_false (by omega)
      rcases Int.lt_or_le p.2 p.1 with r | r
      · have a : fA p = true := decide_eq_true (by omega)
        have b : fB p = false := decide_eq_false (by omega)
        have d : decide (p.2 < p.1) = true := decide_eq_true (by omega)
        simp only [List.filter_cons, a, b, c, d, if_true, List.length_cons, Bool.false_eq_true, if_false]
        omega
      · have a : fA p = false := decide_eq_false (by omega)
        have b : fB p = true := decide_eq_true (by omega)
        have d : decide (p.2 < p.1) = false := decide_eq_false (by omega)
        simp only [List.filter_cons, a, b, c, d, if_true, List.length_cons, Bool.false_eq_true, if_false]
        omega
theorem swap_len {sh : Sheet} (g : Good sh) (t : Tied sh) {f1 f2 : Int × Int → Bool} (h : ∀ i j, 0 ≤ i → f1 (i, j) = true → 0 ≤ j ∧ f2 (j, i) = true) : ((pairs sh).filter f1).length ≤ ((pairs sh).filter f2).length := by
  have nd : (((pairs sh).filter f1).map fun p => (p.2, p.1)).Nodup := by
    rw [List.nodup_iff_pairwise_ne, List.pairwise_map]
    have := List.Pairwise.sublist (List.filter_sublist (p := f1)) (pairs_nd g)
    exact List.Pairwise.imp (fun {a b} q e => q (Prod.ext (Prod.mk.inj e).2 (Prod.mk.inj e).1)) this
  have := nd.length_le_of_subset (l₂ := (pairs sh).filter f2) fun x hx => by
    obtain ⟨p, hp, rfl⟩ := List.mem_map.mp hx
    obtain ⟨h1, h2⟩ := List.mem_filter.mp hp
    obtain ⟨a, b⟩ := pairs_mem h1
    obtain ⟨c, d⟩ := h p.1 p.2 a.1 h2
    exact List.mem_filter.mpr ⟨mem_pairs (in_of g a b c) (back_of t a b c), d⟩
  rwa [List.length_map] at this
theorem twice_eq {sh : Sheet} (g : Good sh) (t : Tied sh) : (pairs sh).length + ((pairs sh).filter fN).length = 2 * lows sh := by
  obtain ⟨h1, h2⟩ := parts_len (pairs sh) fun p hp => by
    obtain ⟨a, b⟩ := pairs_mem hp
    refine ⟨fun e => ?_, a.1⟩
    have := (good_at g a).2.2.1
    rw [Int.toNat_of_nonneg a.1] at this
    rw [← e] at b
    exact this b
  have h3 := swap_len g t (f1 := fA) (f2 := fB) fun i j h0 h => by
    have h := of_decide_eq_true h
    simp only at h
    exact ⟨h.1, decide_eq_true (by simp only; omega)⟩
  have h4 := swap_len g t (f1 := fB) (f2 := fA) fun i j h0 h => by
    have h := of_decide_eq_true h
    simp only at h
    exact ⟨h.1, decide_eq_true (by simp only; omega)⟩
  unfold lows
  omega
def tw1 : Int → List Int → Int
  | x, [] => x
  | x, j :: c => tw1 (x + 1 + (if decide (j < 0) = true then 1 else 0)) c
def tw2 : Int → Sheet → Int
  | x, [] => x
  | x, c :: sh => tw2 (tw1 x c) sh
theorem tw1_eq : ∀ (c : List Int) (x : Int) (i : Nat), tw1 x c = x + ((prs (c, i)).length : Nat) + (((prs (c, i)).filter fN).length : Nat)
  | [], x, i => by simp [tw1, prs]
  | j :: c, x, i => by
    rw [tw1, tw1_eq c _ i, show prs (j :: c, i) = ((i : Int), j) :: prs (c, i) from rfl, List.length_cons]
    by_cases h : j < 0
    · rw [List.filter_cons_of_pos (show fN ((i : Int), j) = true from decide_eq_true h), decide_eq_true h, List.length_cons]
      simp only [if_true]
      omega
    · rw [List.filter_cons_of_neg (show ¬ fN ((i : Int), j) = true from fun z => h (of_decide_eq_true z)), decide_eq_false h]
      simp only [Bool.false_eq_true, if_false]
      omega
theorem tw2_eq : ∀ (sh : Sheet) (x : Int) (i : Nat), tw2 x sh = x + ((((sh.zipIdx i).flatMap prs).length : Nat) : Int) + (((((sh.zipIdx i).flatMap prs).filter fN).length : Nat) : Int)
  | [], x, i => by simp [tw2]
  | c :: sh, x, i => by
    rw [tw2, tw2_eq sh _ (i + 1), tw1_eq c x i, List.zipIdx_cons, List.flatMap_cons, List.filter_append, List.length_append, List.length_append]
    omega
theorem tw_all {sh : Sheet} (g : Good sh) (t : Tied sh) : tw2 0 sh = 2 * (lows sh : Nat) := by
  have := tw2_eq sh 0 0
  have e := twice_eq g t
  rw [show (sh.zipIdx 0).flatMap prs = pairs sh from rfl] at this
  omega
theorem dint_bl {e : Ev} {ρ : MP.Env} {S S1 : Sto} {k : Bool} (h : e ρ S = .ok (.bl k) S1) : eL dInt (aCons e aNil) ρ S = .ok (.int (if k = true then 1 else 0)) S1 := by
  unfold eL
  rw [args1 h]
  rfl
theorem tw1_loop {sh n a b d : Option D} {S : Sto} : ∀ (c : List Int) (x : Int) (e3 e6 : Option D), ∃ e3', forLoop (fun _ => True) (bName 3) (sAsg 5 (eB dAdd (eB dAdd (eVar 5) (eC (.int 1))) (eL dInt (aCons (eB dLt (eVar 3) (eC (.int 0))) aNil)))) (c.map D.int) [sh, n, a, e3, d, some (.int x), e6] S = .next [sh, n, a, e3', d, some (.int (tw1 x c)), e6] S
  | [], x, e3, e6 => ⟨e3, for_nil trivial⟩
  | j :: c, x, e3, e6 => by
    obtain ⟨e3', h⟩ := tw1_loop (sh := sh) (n := n) (a := a) (b := b) (d := d) (S := S) c (x + 1 + (if decide (j < 0) = true then 1 else 0)) (some (.int j)) e6
    refine ⟨e3', ?_⟩
    have e : eB dAdd (eB dAdd (eVar 5) (eC (.int 1))) (eL dInt (aCons (eB dLt (eVar 3) (eC (.int 0))) aNil)) [sh, n, a, some (.int j), d, some (.int x), e6] S = .ok (.int (x + 1 + (if decide (j < 0) = true then 1 else 0))) S := add_ok (add_ok (var_ok rfl) c_ok) (dint_bl (lt_ok (var_ok rfl) c_ok))
    rw [List.map_cons, for_cons trivial (show bName 3 (.int j) [sh, n, a, e3, d, some (.int x), e6] = some [sh, n, a, some (.int j), d, some (.int x), e6] from rfl) (ret_asg e)]
    exact h
theorem tw2_loop {sd n a d : Option D} {S : Sto} : ∀ (sh : Sheet) (x : Int) (e3 e6 : Option D), ∃ e3' e6', forLoop (fun _ => True) (bName 6) (sFor (iSeq (eVar 6)) (bName 3) (sAsg 5 (eB dAdd (eB dAdd (eVar 5) (eC (.int 1))) (eL dInt (aCons (eB dLt (eVar 3) (eC (.int 0))) aNil))))) (sh.map di) [sd, n, a, e3, d, some (.int x), e6] S = .next [sd, n, a, e3', d, some (.int (tw2 x sh)), e6'] S
  | [], x, e3, e6 => ⟨e3, e6, for_nil trivial⟩
  | c :: sh, x, e3, e6 => by
    obtain ⟨e3', h⟩ := tw1_loop (sh := sd) (n := n) (a := a) (b := a) (d := d) (S := S) c x e3 (some (di c))
    obtain ⟨e4, e6', h'⟩ := tw2_loop (sd := sd) (n := n) (a := a) (d := d) (S := S) sh (tw1 x c) e3' (some (di c))
    refine ⟨e4, e6', ?_⟩
    rw [List.map_cons, for_cons trivial (show bName 6 (di c) [sd, n, a, e3, d, some (.int x), e6] = some [sd, n, a, e3, d, some (.int x), some (di c)] from rfl) (forT (xs := c.map D.int) (var_ok rfl) h)]
    exact h'
theorem rng_zip {α : Type} (xs : List α) : rngL 0 xs.length = xs.zipIdx.map fun p => D.int p.2 := by
  apply List.ext_getElem?
  intro i
  rw [List.getElem?_map, List.getElem?_zipIdx]
  rcases Nat.lt_or_ge i xs.length with h | h
  · rw [List.getElem?_eq_getElem h]
    have : i < (rngL 0 xs.length).length := by rw [rngL_length]; exact h
    obtain ⟨_, e⟩ := rng_at (List.getElem?_eq_getElem this)
    rw [List.getElem?_eq_getElem this, e]
    simp
  · rw [List.getElem?_eq_none h, List.getElem?_eq_none (by rw [rngL_length]; exact h)]
    rfl
def RretP (w : Str) (S : Sto) (p : Int × Int) (F : MP.Flow) : Prop := ∃ G, F = .ret (.tup [.str w, .tup [.int p.1, .int p.2]]) (S ++ G)
theorem fault_sh {sh : Sheet} (g : Good sh) (h0 : sh ≠ []) (hn : sh.length ≤ 100) {S : Sto} {a b : Option D} : ∀ G0, ∃ G, flowRes ((sSeq (sFor (iRange rng1 (aCons (eVar 1) aNil)) (bName 2)
 (sFor (iSeq (eB dIx (eVar 0) (eVar 2))) (bName 3)
 (sIf (eAndT (eTest (eB dGe (eVar 3) (eC (.int 0)))) (eTest (eB dNotIn (eVar 2) (eB dIx (eVar 0) (eVar 3)))))
 (sRet (eTup (aCons (eC (.str "tie")) (aCons (eTup (aCons (eVar 2) (aCons (eVar 3) aNil))) aNil))))
 sSkip)))
 (sSeq (sFor (iRange rng1 (aCons (eVar 1) aNil)) (bName 2)
 (sFor (iSeq (eB dIx (eVar 0) (eVar 2))) (bName 3)
 (sIf (eNotT (eTest (eCall 4 sp__law_corner (aCons (eVar 0) (aCons (eVar 2) (aCons (eVar 3) (aCons (eCall 2 sp__law_after (aCons (eB dIx (eVar 0) (eVar 2)) (aCons (eVar 3) aNil))) aNil)))))))
 (sRet (eTup (aCons (eC (.str "face")) (aCons (eTup (aCons (eVar 2) (aCons (eVar 3) aNil))) aNil))))
 sSkip)))
 (sSeq (sFor (iSeq (eLst (aCons (eU dNeg (eC (.int 4))) (aCons (eU dNeg (eC (.int 3))) (aCons (eU dNeg (eC (.int 2))) (aCons (eU dNeg (eC (.int 1))) aNil)))))) (bName 4)
 (sIf (eNotT (eTest (eCall 2 sp__law_edge (aCons (eVar 0) (aCons (eVar 4) aNil)))))
 (sRet (eTup (aCons (eC (.str "side")) (aCons (eVar 4) aNil))))
 sSkip))
 (sSeq (sIf (eNotT (eTest (eCall 1 sp__law_hangs (aCons (eVar 0) aNil))))
 (sRet (eTup (aCons (eC (.str "parts")) (aCons (eU dNeg (eC (.int 1))) aNil))))
 sSkip)
 (sSeq (sAsg 5 (eC (.int 0)))
 (sSeq (sFor (iSeq (eVar 0)) (bName 6)
 (sFor (iSeq (eVar 6)) (bName 3)
 (sAsg 5 (eB dAdd (eB dAdd (eVar 5) (eC (.int 1))) (eL dInt (aCons (eB dLt (eVar 3) (eC (.int 0))) aNil))))))
 (sSeq (sIf (eTest (eB dNe (eVar 5) (eB dMul (eC (.int 2)) (eB dAdd (eB dMul (eC (.int 3)) (eVar 1)) (eC (.int 1))))))
 (sRet (eTup (aCons (eC (.str "count")) (aCons (eU dNeg (eC (.int 1))) aNil))))
 sSkip)
 (sRet (eTup aNil))))))))) [some (dsh sh), some (.int (sh.length : Nat)), a, none, none, none, none] (S ++ G0)) = .ok (outF (faultSh sh)) (S ++ G) := by
  intro G0
  unfold faultSh
  have ixz : ∀ {z : List Int × Nat} (hz : z ∈ sh.zipIdx) {x e c d f : Option D} {S : Sto}, eB dIx (eVar 0) (eVar 2) [some (dsh sh), x, some (.int z.2), e, c, d, f] S = .ok (di z.1) S := fun hz => by
    obtain ⟨q1, q2⟩ := zip_at hz
    rw [← q2]
    exact b_ok (var_ok rfl) (var_ok rfl) (ix_dsh q1)
  have key1 := for_prs (sh := sh) (st := fun _ => True) (b := bName 2) (e := eB dIx (eVar 0) (eVar 2)) (v := 3) (inner := (sIf (eAndT (eTest (eB dGe (eVar 3) (eC (.int 0)))) (eTest (eB dNotIn (eVar 2) (eB dIx (eVar 0) (eVar 3)))))
 (sRet (eTup (aCons (eC (.str "tie")) (aCons (eTup (aCons (eVar 2) (aCons (eVar 3) aNil))) aNil))))
 sSkip)) (fun p => D.int p.2) (tieBad sh) (fun ρ => ∃ a b, ρ = [some (dsh sh), some (.int (sh.length : Nat)), a, b, none, none, none]) (fun z ρ => ∃ b, ρ = [some (dsh sh), some (.int (sh.length : Nat)), some (.int z.2), b, none, none, none]) (RretP "tie" S) (S := S) (fun _ => trivial)
    (fun z hz ρ hE => by
      obtain ⟨a, b, rfl⟩ := hE
      exact ⟨_, rfl, _, rfl⟩) (fun z hz ρ G hE => by
      obtain ⟨c, rfl⟩ := hE
      exact ixz hz) (fun z ρ hE => by
      obtain ⟨c, rfl⟩ := hE
      exact ⟨_, _, rfl⟩) (fun z hz j hj ρ G hE => by
      obtain ⟨c, rfl⟩ := hE
      obtain ⟨hi, ha⟩ := zip_at hz
      simp only [List.set_cons_zero, List.set_cons_succ]
      have hj' : j ∈ at' sh z.2 := by rw [ha]; exact hj
      have t2 := tie_t g hi hj' (a := 2) (b := 3) (c := 0) (ρ := [some (dsh sh), some (.int (sh.length : Nat)), some (.int z.2), some (.int j), none, none, none]) (S := S ++ G) rfl rfl rfl
      refine ⟨fun hb => ?_, fun hb => ?_⟩
      · rw [hb] at t2
        exact ⟨_, G, if_s t2, _, rfl⟩
      · rw [hb] at t2
        have t4 := (if_t (b := sSkip) t2).trans (ret_ret (tup_2 (c_ok (d := .str "tie")) (tup_2 (var_ok (i := 2) (d := .int z.2) rfl) (var_ok (i := 3) (d := .int j) rfl))))
        exact ⟨.inl ⟨_, _, t4⟩, _, t4⟩) [some (dsh sh), some (.int (sh.length : Nat)), a, none, none, none, none] G0 ⟨_, _, rfl⟩
  rw [← rng_sh] at key1
  cases h1 : (pairs sh).find? (tieBad sh) with
  | some p =>
    obtain ⟨_, G, e⟩ := key1.2 p h1
    rw [seq_ret (for_rng (n := sh.length) (args1 (var_ok rfl)) (by omega) e)]
    exact ⟨G, rfl⟩
  | none =>
    obtain ⟨ρ', G, e, x1, x2, rfl⟩ := key1.1 h1
    have t := tied_of h1
    rw [seq_next (for_rng (n := sh.length) (args1 (var_ok rfl)) (by omega) e)]
    clear e key1
    have key2 := for_prs (sh := sh) (st := fun _ => True) (b := bName 2) (e := eB dIx (eVar 0) (eVar 2)) (v := 3) (inner := (sIf (eNotT (eTest (eCall 4 sp__law_corner (aCons (eVar 0) (aCons (eVar 2) (aCons (eVar 3) (aCons (eCall 2 sp__law_after (aCons (eB dIx (eVar 0) (eVar 2)) (aCons (eVar 3) aNil))) aNil)))))))
 (sRet (eTup (aCons (eC (.str "face")) (aCons (eTup (aCons (eVar 2) (aCons (eVar 3) aNil))) aNil))))
 sSkip)) (fun p => D.int p.2) (faceBad sh) (fun ρ => ∃ a b, ρ = [some (dsh sh), some (.int (sh.length : Nat)), a, b, none, none, none]) (fun z ρ => ∃ b, ρ = [some (dsh sh), some (.int (sh.length : Nat)), some (.int z.2), b, none, none, none]) (RretP "face" S) (S := S) (fun _ => trivial)
      (fun z hz ρ hE => by
        obtain ⟨a, b, rfl⟩ := hE
        exact ⟨_, rfl, _, rfl⟩) (fun z hz ρ G hE => by
        obtain ⟨c, rfl⟩ := hE
        exact ixz hz) (fun z ρ hE => by
        obtain ⟨c, rfl⟩ := hE
        exact ⟨_, _, rfl⟩) (fun z hz j hj ρ G hE => by
        obtain ⟨c, rfl⟩ := hE
        obtain ⟨hi, ha⟩ := zip_at hz
        simp only [List.set_cons_zero, List.set_cons_succ]
        have hj' : j ∈ at' sh z.2 := by rw [ha]; exact hj
        have t2 : eNotT (eTest (eCall 4 sp__law_corner (aCons (eVar 0) (aCons (eVar 2) (aCons (eVar 3) (aCons (eCall 2 sp__law_after (aCons (eB dIx (eVar 0) (eVar 2)) (aCons (eVar 3) aNil))) aNil)))))) [some (dsh sh), some (.int (sh.length : Nat)), some (.int z.2), some (.int j), none, none, none] (S ++ G) = .ok (faceBad sh (z.2, j)) (S ++ G) := by
          unfold faceBad
          refine not_b (test_ok ((call4 (var_ok rfl) (var_ok rfl) (var_ok rfl) ((call2 (ixz hz) (var_ok rfl)).trans (splaft hj))).trans ?_))
          rw [← ha]
          exact splco g t hi hj' (aft_mem hj')
        refine ⟨fun hb => ?_, fun hb => ?_⟩
        · rw [hb] at t2
          exact ⟨_, G, if_s t2, _, rfl⟩
        · rw [hb] at t2
          have t4 := (if_t (b := sSkip) t2).trans (ret_ret (tup_2 (c_ok (d := .str "face")) (tup_2 (var_ok (i := 2) (d := .int z.2) rfl) (var_ok (i := 3) (d := .int j) rfl))))
          exact ⟨.inl ⟨_, _, t4⟩, _, t4⟩) [some (dsh sh), some (.int (sh.length : Nat)), x1, x2, none, none, none] G ⟨_, _, rfl⟩
    rw [← rng_sh] at key2
    cases h2 : (pairs sh).find? (faceBad sh) with
    | some p =>
      obtain ⟨_, G, e⟩ := key2.2 p h2
      rw [seq_ret (for_rng (n := sh.length) (args1 (var_ok rfl)) (by omega) e)]
      exact ⟨G, rfl⟩
    | none =>
      obtain ⟨ρ', G, e, x1, x2, rfl⟩ := key2.1 h2
      have f := faced_of h2
      rw [seq_next (for_rng (n := sh.length) (args1 (var_ok rfl)) (by omega) e)]
      clear e key2
      have hl := at_end (S ++ G) [.int (-4), .int (-3), .int (-2), .int (-1)]
      have happ : ∀ G', (S ++ G ++ [[.int (-4), .int (-3), .int (-2), .int (-1)]] ++ G')[(S ++ G).length]? = some [.int (-4), .int (-3), .int (-2), .int (-1)] := fun G' => by
        rw [List.getElem?_append_left (by simp)]
        exact hl
      have key := for_find (st := fun S' => S'[(S ++ G).length]? = some [.int (-4), .int (-3), .int (-2), .int (-1)]) (b := bName 4) (body := (sIf (eNotT (eTest (eCall 2 sp__law_edge (aCons (eVar 0) (aCons (eVar 4) aNil)))))
 (sRet (eTup (aCons (eC (.str "side")) (aCons (eVar 4) aNil))))
 sSkip)) D.int (fun s => !hasRow sh s) (fun ρ => ∃ x, ρ = [some (dsh sh), some (.int (sh.length : Nat)), x1, x2, x, none, none]) (fun s F => ∃ G', F = .ret (.tup [.str "side", .int s]) (S ++ G ++ [[.int (-4), .int (-3), .int (-2), .int (-1)]] ++ G')) (S := S ++ G ++ [[.int (-4), .int (-3), .int (-2), .int (-1)]]) happ [-4, -3, -2, -1] (fun s hs ρ G hE => by
        obtain ⟨x, rfl⟩ := hE
        refine ⟨_, rfl, ?_⟩
        simp only [List.set_cons_zero, List.set_cons_succ]
        have hs4 : -4 ≤ s ∧ s < 0 := by simp at hs; omega
        have t2 := fun S => not_b (test_ok ((call2 (F := sp__law_edge) (var_ok (i := 0) (d := dsh sh) (ρ := [some (dsh sh), some (.int (sh.length : Nat)), x1, x2, some (.int s), none, none]) (S := S) rfl) (var_ok (i := 4) (d := .int s) rfl)).trans (sphasL g t f hs4 (by omega))))
        refine ⟨fun hb => ?_, fun hb => ?_⟩
        · rw [hb] at t2
          exact ⟨_, G, if_s (t2 _), _, rfl⟩
        · rw [hb] at t2
          have t4 := fun S => (if_t (b := sSkip) (t2 S)).trans (ret_ret (tup_2 (c_ok (d := .str "side")) (var_ok (i := 4) (d := .int s) rfl)))
          exact ⟨.inl ⟨_, _, t4 _⟩, _, t4 _⟩) [some (dsh sh), some (.int (sh.length : Nat)), x1, x2, none, none, none] [] ⟨_, rfl⟩
      rw [List.append_nil] at key
      cases h3 : [-4, -3, -2, -1].find? fun s => !hasRow sh s with
      | some s =>
        obtain ⟨k1, G', e⟩ := key.2 s h3
        rw [seq_ret (for_lst lst4 hl e)]
        exact ⟨G ++ ([[.int (-4), .int (-3), .int (-2), .int (-1)]] ++ G'), by rw [← List.append_assoc, ← List.append_assoc]; rfl⟩
      | none =>
        obtain ⟨ρ', G', e, x, rfl⟩ := key.1 h3
        rw [seq_next (for_lst lst4 hl e)]
        have ea : S ++ G ++ [[.int (-4), .int (-3), .int (-2), .int (-1)]] ++ G' = S ++ (G ++ ([[.int (-4), .int (-3), .int (-2), .int (-1)]] ++ G')) := by rw [← List.append_assoc, ← List.append_assoc]
        rw [ea]
        generalize G ++ ([[.int (-4), .int (-3), .int (-2), .int (-1)]] ++ G') = G2
        clear key e ea happ hl
        refine ⟨G2, ?_⟩
        have t3 := not_b (test_ok ((call1 (F := sp__law_hangs) (var_ok (i := 0) (d := dsh sh) (ρ := [some (dsh sh), some (.int (sh.length : Nat)), x1, x2, x, none, none]) (S := S ++ G2) rfl)).trans (spwholeL g h0 (by omega))))
        cases h4 : whole sh with
        | false =>
          rw [h4] at t3
          rw [seq_ret ((if_t t3).trans (ret_ret (tup_2 c_ok (neg_ok c_ok))))]
          rfl
        | true =>
          rw [h4] at t3
          rw [if_no t3 rfl, seq_next (ret_asg (c_ok (d := .int 0)))]
          simp only [List.set_cons_zero, List.set_cons_succ]
          obtain ⟨e3', e6', hw⟩ := tw2_loop (sd := some (dsh sh)) (n := some (.int (sh.length : Nat))) (a := x1) (d := x) (S := S ++ G2) sh 0 x2 none
          rw [seq_next (forT (xs := sh.map di) (var_ok rfl) hw), tw_all g t]
          have t7 : eTest (eB dNe (eVar 5) (eB dMul (eC (.int 2)) (eB dAdd (eB dMul (eC (.int 3)) (eVar 1)) (eC (.int 1))))) [some (dsh sh), some (.int (sh.length : Nat)), x1, e3', x, some (.int (2 * (lows sh : Nat))), e6'] (S ++ G2) = .ok (!decide ((2 * (lows sh : Nat) : Int) = 2 * (3 * (sh.length : Nat) + 1))) (S ++ G2) :=
            test_ok (ne_ok (var_ok rfl) (mul_ok (mulA (a := 10) (b := 64) (by unfold Bt; decide) (by unfold Bt; omega) (by decide)) c_ok (add_ok (mul_ok (mulA (a := 10) (b := 64) (by unfold Bt; decide) (by unfold Bt; simp; omega) (by decide)) c_ok (var_ok rfl)) c_ok)))
          by_cases h5 : lows sh = 3 * sh.length + 1
          · rw [decide_eq_true (by omega)] at t7
            rw [if_no t7 rfl, ret_ret (q_tup0 _ _), if_pos h5]
            rfl
          · rw [decide_eq_false (by omega)] at t7
            rw [seq_ret ((if_t t7).trans (ret_ret (tup_2 c_ok (neg_ok c_ok)))), if_neg h5]
            rfl
end LawM
end
section
set_option Elab.async false
set_option linter.all false
set_option maxRecDepth 100000
set_option maxHeartbeats 1000000
/-! S12: the law's own reading of any value. -/
namespace LawM
open PySem PySem.Spec PyProof.Rows L2 MP
theorem lfault_ok {d : D} (h : VP d = true) {S : Sto} : ∃ G, rf__law_fault [d] S = .ok (outF (fault d)) (S ++ G) := by
  have hp := pln_VP h
  unfold rf__law_fault runDef ev__law_fault
  rw [show begins 7 [d] = [some d, none, none, none, none, none, none] from rfl]
  have t1 := not_b (test_ok (u_ok (g := dIsi "tuple") (var_ok (i := 0) (d := d) (ρ := [some d, none, none, none, none, none, none]) (S := S) rfl) (isi_tup hp)))
  by_cases ht : (tyName d == "tuple") = true
  · cases d <;> first
      | (simp [tyName] at ht; done)
      | skip
    rename_i xs
    rw [ht] at t1
    have hv : xs.length ≤ 100 ∧ ∀ d ∈ xs, VC d = true := by
      unfold VP at h
      simpa using h
    have t2 : eTest (eB dEq (eL dLen (aCons (eVar 0) aNil)) (eC (.int 0))) [some (.tup xs), none, none, none, none, none, none] S = .ok (decide (((xs.length : Nat) : Int) = 0)) S := test_ok (eq_ok (lenT_ok (var_ok rfl)) c_ok)
    by_cases h0 : xs = []
    · subst h0
      rw [decide_eq_true (by rfl)] at t2
      rw [seq_ret ((if_t (or_2 t1 t2)).trans (ret_ret (tup_2 c_ok (neg_ok c_ok))))]
      exact ⟨[], by rw [List.append_nil]; rfl⟩
    · have hl := List.length_pos_iff.mpr h0
      rw [decide_eq_false (by omega)] at t2
      rw [if_no (or_2 t1 t2) rfl, seq_next (ret_asg (lenT_ok (var_ok rfl)))]
      simp only [List.set_cons_zero, List.set_cons_succ]
      have key := for_find (st := fun _ => True) (b := bName 2) (body := (sIf (eNotT (eTest (eCall 3 sp__law_circle (aCons (eB dIx (eVar 0) (eVar 2)) (aCons (eVar 2) (aCons (eVar 1) aNil))))))
 (sRet (eTup (aCons (eC (.str "circle")) (aCons (eVar 2) aNil))))
 sSkip)) (fun p : D × Nat => D.int p.2) (fun p => !isCirc xs.length p.2 p.1) (fun ρ => ∃ a, ρ = [some (.tup xs), some (.int (xs.length : Nat)), a, none, none, none, none]) (fun p F => ∃ G, F = .ret (.tup [.str "circle", .int p.2]) (S ++ G)) (S := S) (fun _ => trivial) xs.zipIdx (fun z hz ρ G hE => by
          obtain ⟨a, rfl⟩ := hE
          refine ⟨_, rfl, ?_⟩
          simp only [List.set_cons_zero, List.set_cons_succ]
          have t3 : eNotT (eTest (eCall 3 sp__law_circle (aCons (eB dIx (eVar 0) (eVar 2)) (aCons (eVar 2) (aCons (eVar 1) aNil))))) [some (.tup xs), some (.int (xs.length : Nat)), some (.int z.2), none, none, none, none] (S ++ G) = .ok (!isCirc xs.length z.2 z.1) (S ++ G) := not_b (test_ok ((call3 (b_ok (var_ok rfl) (var_ok rfl) (ix_tup (zipD hz))) (var_ok rfl) (var_ok rfl)).trans (spcircL (hv.2 _ (List.mem_of_getElem? (zipD hz))))))
          refine ⟨fun hb => ?_, fun hb => ?_⟩
          · rw [hb] at t3
            exact ⟨_, G, if_s t3, _, rfl⟩
          · rw [hb] at t3
            have t4 := (if_t (b := sSkip) t3).trans (ret_ret (tup_2 (c_ok (d := .str "circle")) (var_ok (i := 2) (d := .int z.2) rfl)))
            exact ⟨.inl ⟨_, _, t4⟩, _, t4⟩) [some (.tup xs), some (.int (xs.length : Nat)), none, none, none, none, none] [] ⟨_, rfl⟩
      rw [List.append_nil, ← rng_zip] at key
      have fe : fault (.tup xs) = (firstBad xs.length 0 xs <|> (shL xs).bind faultSh) := by
        exact if_neg h0
      rw [fe]
      cases hf : xs.zipIdx.find? fun p => !isCirc xs.length p.2 p.1 with
      | some p =>
        obtain ⟨k1, G, e⟩ := key.2 p hf
        rw [seq_ret (for_rng (n := xs.length) (args1 (var_ok rfl)) (by omega) e)]
        refine ⟨G, ?_⟩
        rw [firstBad_find, hf]
        rfl
      | none =>
        obtain ⟨ρ', G, e, a, rfl⟩ := key.1 hf
        rw [seq_next (for_rng (n := xs.length) (args1 (var_ok rfl)) (by omega) e)]
        have hb : firstBad xs.length 0 xs = none := by
          rw [firstBad_find, hf]
          rfl
        rw [hb]
        obtain ⟨sh, e1, e2, g⟩ := good_of hb
        rw [e2]
        have e3 : xs.length = sh.length := by rw [e1, List.length_map]
        rw [e3] at hv ⊢
        obtain ⟨G', e'⟩ := fault_sh (sh := sh) g (fun z => h0 (by rw [e1, z]; rfl)) hv.1 (S := S) (a := a) (b := none) G
        rw [show D.tup xs = dsh sh from by rw [e1]; rfl]
        exact ⟨G', e'⟩
  · have ht : (tyName d == "tuple") = false := by simpa using ht
    rw [ht] at t1
    rw [seq_ret ((if_t (or_t t1)).trans (ret_ret (tup_2 c_ok (neg_ok c_ok))))]
    refine ⟨[], ?_⟩
    rw [List.append_nil]
    cases d <;> first
      | rfl
      | (simp [tyName] at ht)
theorem outF_below {d : D} (n : Nat) : MP.Below n (outF (fault d)) := by
  cases hf : fault d with
  | none => simp [outF, MP.Below, BelowL]
  | some p =>
    obtain ⟨w, a⟩ := p
    unfold outF MP.Below BelowL BelowL BelowL
    exact ⟨by unfold MP.Below; trivial, atInt_below (fault_at hf) _, trivial⟩
theorem sim__law_fault : ∀ ds S, Sim S (rf__law_fault ds S) (sp__law_fault ds S) := by
  intro ds S
  unfold sp__law_fault
  split
  · split
    · rename_i h
      obtain ⟨G, e⟩ := lfault_ok h (S := S)
      exact Sim.val e (outF_below _)
    · trivial
  · trivial
end LawM
end
section
end
section
set_option Elab.async false
set_option linter.all false
set_option maxRecDepth 100000
set_option maxHeartbeats 1000000
/-! the pool. -/
namespace LawM
open PySem PySem.Spec PyProof.Rows L2 MP
theorem mixed_ok {c t : Int} (hc : Bt c 1000) (ht : Bt t 100) {S : Sto} : ∃ r, rf__law_mixed [.int c, .int t] S = .ok (.int r) S := by
  have a1 := mulA (y := 50069) (b := 20) hc (by unfold Bt; decide) (by decide)
  have a2 := mulA (y := 72031) (b := 20) ht (by unfold Bt; decide) (by decide)
  have n1 : CModA (c * 50069 + t * 72031 + 13) 2147480039 := by unfold CModA; decide
  obtain ⟨f1, f2⟩ := fmod_range (a := c * 50069 + t * 72031 + 13) (m := 2147480039) (by decide)
  generalize hf : (c * 50069 + t * 72031 + 13).fmod 2147480039 = f at f1 f2
  have bf : Bt f 31 := bt_of f1 f2 (by decide)
  have a3 := mulA bf bf (by decide)
  have a4 := mulA (y := 30047) (b := 20) ht (by unfold Bt; decide) (by decide)
  have n2 : CModA (f * f + t * 30047 + 5) 2147470049 := by unfold CModA; decide
  obtain ⟨g1, g2⟩ := fmod_range (a := f * f + t * 30047 + 5) (m := 2147470049) (by decide)
  generalize hg : (f * f + t * 30047 + 5).fmod 2147470049 = g at g1 g2
  have bg : Bt g 31 := bt_of g1 g2 (by decide)
  have a5 := mulA bg bg (by decide)
  have a6 := mulA (y := 20047) (b := 20) bg (by unfold Bt; decide) (by decide)
  have d1 : CDivA (g * g) 4099 := ⟨by decide, by decide⟩
  have n3 : CModA ((g * g).fdiv 4099 + g * 20047 + t) 2147460053 := by unfold CModA; decide
  have d2 : ∀ x, CDivA x 8 := fun x => ⟨by decide, by decide⟩
  refine ⟨(((g * g).fdiv 4099 + g * 20047 + t).fmod 2147460053).fdiv 8, ?_⟩
  unfold rf__law_mixed runDef ev__law_mixed
  rw [seq_next (ρ' := [some (.int c), some (.int t), some (.int f), none, none]) (S' := S) (by simp [eVar, eC, eB, eU, eL, boolOf, eTest, eNotT, eAndT, eOrT, eNot, eAnd, eOr, eIf, aNil, aCons, eTup, eLst, eChain, sSkip, sSeq, sAsg, sPar, sExpr, sRet, sRetN, sIf, sBrk, sCont, sSub, eCall, eKw, runDef, begins, dI0, dI, dSub, dLt, dLe, dGt, dGe, dNeg, dInt, dAbs, dGcd, dDiv, dMod, sBind, bTup, bCons, bNil, bName, eMt, iSeq, iRange, ofRes, flowRes, srcOf, dMul_int a1, dMul_int a2, n1, hf])]
  rw [seq_next (ρ' := [some (.int c), some (.int t), some (.int f), some (.int g), none]) (S' := S) (by simp [eVar, eC, eB, eU, eL, boolOf, eTest, eNotT, eAndT, eOrT, eNot, eAnd, eOr, eIf, aNil, aCons, eTup, eLst, eChain, sSkip, sSeq, sAsg, sPar, sExpr, sRet, sRetN, sIf, sBrk, sCont, sSub, eCall, eKw, runDef, begins, dI0, dI, dSub, dLt, dLe, dGt, dGe, dNeg, dInt, dAbs, dGcd, dDiv, dMod, sBind, bTup, bCons, bNil, bName, eMt, iSeq, iRange, ofRes, flowRes, srcOf, dMul_int a3, dMul_int a4, n2, hg])]
  rw [seq_next (ρ' := [some (.int c), some (.int t), some (.int f), some (.int g), some (.int (((g * g).fdiv 4099 + g * 20047 + t).fmod 2147460053))]) (S' := S) (by simp [eVar, eC, eB, eU, eL, boolOf, eTest, eNotT, eAndT, eOrT, eNot, eAnd, eOr, eIf, aNil, aCons, eTup, eLst, eChain, sSkip, sSeq, sAsg, sPar, sExpr, sRet, sRetN, sIf, sBrk, sCont, sSub, eCall, eKw, runDef, begins, dI0, dI, dSub, dLt, dLe, dGt, dGe, dNeg, dInt, dAbs, dGcd, dDiv, dMod, sBind, bTup, bCons, bNil, bName, eMt, iSeq, iRange, ofRes, flowRes, srcOf, dMul_int a5, dMul_int a6, n3, d1])]
  simp [eVar, eC, eB, eU, eL, boolOf, eTest, eNotT, eAndT, eOrT, eNot, eAnd, eOr, eIf, aNil, aCons, eTup, eLst, eChain, sSkip, sSeq, sAsg, sPar, sExpr, sRet, sRetN, sIf, sBrk, sCont, sSub, eCall, eKw, runDef, begins, dI0, dI, dSub, dLt, dLe, dGt, dGe, dNeg, dInt, dAbs, dGcd, dDiv, dMod, sBind, bTup, bCons, bNil, bName, eMt, iSeq, iRange, ofRes, flowRes, srcOf, d2]
/-- the pool, after at most n takings -/
structure Pl (C P : List D) (n : Nat) : Prop where
  ex : ∃ (cs : List Int) (v1 v2 v3 v4 : Int), C = cs.map D.int ∧ P = [.lst 0, .int v1, .int v2, .int v3, .int v4] ∧ (∀ c ∈ cs, Bt c 2000000) ∧ (0 ≤ v1 ∧ Bt v1 700) ∧ (0 ≤ v2 ∧ v2 ≤ n) ∧ Bt v3 40
theorem pop_ok {c : Int} {cs : List Int} {P : List D} {R : Sto} : mPopAt 0 [.int 0] ((c :: cs).map D.int :: P :: R) = some (.int c, cs.map D.int :: P :: R) := by
  have h : ixN ((c :: cs).map D.int).length 0 = some 0 := ixN_nat (k := 0) (by simp)
  unfold mPopAt
  simp only [List.getElem?_cons_zero, Option.bind_some, h]
  simp
theorem set1 {C : List D} {R : Sto} {v1 v2 v3 v4 w : Int} : gSet (.lst 1) (.int 1) (.int w) (C :: [.lst 0, .int v1, .int v2, .int v3, .int v4] :: R) = some (C :: [.lst 0, .int w, .int v2, .int v3, .int v4] :: R) := set_lst (k := 1) (xs := [.lst 0, .int v1, .int v2, .int v3, .int v4]) rfl (by show 1 < 5; decide)
theorem set2 {C : List D} {R : Sto} {v1 v2 v3 v4 w : Int} : gSet (.lst 1) (.int 2) (.int w) (C :: [.lst 0, .int v1, .int v2, .int v3, .int v4] :: R) = some (C :: [.lst 0, .int v1, .int w, .int v3, .int v4] :: R) := set_lst (k := 2) (xs := [.lst 0, .int v1, .int v2, .int v3, .int v4]) rfl (by show 2 < 5; decide)
section
variable {C : List D} {R : Sto} {a b c d e : D}
theorem at0 : dIx (.lst 1) (.int 0) (C :: [a, b, c, d, e] :: R) = some (a, C :: [a, b, c, d, e] :: R) := ix_lst (k := 0) (xs := [a, b, c, d, e]) rfl rfl
theorem at1 : dIx (.lst 1) (.int 1) (C :: [a, b, c, d, e] :: R) = some (b, C :: [a, b, c, d, e] :: R) := ix_lst (k := 1) (xs := [a, b, c, d, e]) rfl rfl
theorem at2 : dIx (.lst 1) (.int 2) (C :: [a, b, c, d, e] :: R) = some (c, C :: [a, b, c, d, e] :: R) := ix_lst (k := 2) (xs := [a, b, c, d, e]) rfl rfl
theorem at3 : dIx (.lst 1) (.int 3) (C :: [a, b, c, d, e] :: R) = some (d, C :: [a, b, c, d, e] :: R) := ix_lst (k := 3) (xs := [a, b, c, d, e]) rfl rfl
theorem at4 : dIx (.lst 1) (.int 4) (C :: [a, b, c, d, e] :: R) = some (e, C :: [a, b, c, d, e] :: R) := ix_lst (k := 4) (xs := [a, b, c, d, e]) rfl rfl
end
theorem take_rest (F : List D → Sto → Res D) (hF : ∀ c t : Int, Bt c 1000 → Bt t 100 → ∀ S, ∃ r, F [.int c, .int t] S = .ok (.int r) S) {cs : List Int} {v1 v2 v3 v4 : Int} {m n : Nat} {x : Option D} {R : Sto} (hm : 0 < m) (hm2 : m < 2 ^ 60) (hn : n < 2 ^ 60) (hcs : ∀ c ∈ cs, Bt c 2000000) (h1 : 0 ≤ v1 ∧ Bt v1 700) (h2 : 0 ≤ v2 ∧ v2 ≤ n) (h3 : Bt v3 40) :
    ∃ (r : Nat) (C' P' : List D), flowRes ((sSeq (sIf (eTest (eB dGt (eB dIx (eVar 0) (eC (.int 1))) (eC (.int 0)))) (sSeq (sAsg 3 (eB dMod (eL dInt (aCons (eB dIx (eVar 0) (eC (.int 1))) aNil)) (eVar 1)))
 (sSeq (sSub gSet (eVar 0) (eC (.int 1)) (eB dDiv (eB dIx (eVar 0) (eC (.int 1))) (eVar 1))) (sRet (eVar 3)))) sSkip)
 (sSeq (sSub gSet (eVar 0) (eC (.int 2)) (eB dAdd (eB dIx (eVar 0) (eC (.int 2))) (eC (.int 1)))) (sRet (eB dMod (eL dInt (aCons (eCall 2 F (aCons (eB dIx (eVar 0) (eC (.int 3))) (aCons (eB dIx (eVar 0) (eC (.int 2))) aNil))) aNil)) (eVar 1)))))
   [some (.lst 1), some (.int m), x, none] (cs.map D.int :: [.lst 0, .int v1, .int v2, .int v3, .int v4] :: R)) = .ok (.int r) (C' :: P' :: R) ∧ r < m ∧ Pl C' P' (n + 1) := by
  by_cases hv : 0 < v1
  · obtain ⟨k, k1, k2⟩ := int_fmod (r := v1) hm
    have c1 : CModA v1 m := by unfold CModA; omega
    have c2 : CDivA v1 m := divA (b := 60) (by omega) (by unfold Bt; omega) (by decide)
    have e1 : v1.fdiv m = v1 / m := by rw [Int.fdiv_eq_ediv_of_nonneg _ (by omega)]
    have b1 : 0 ≤ v1 / m := Int.ediv_nonneg h1.1 (by omega)
    have b2 : v1 / m ≤ v1 := Int.ediv_le_self _ h1.1
    refine ⟨k, cs.map D.int, [.lst 0, .int (v1 / m), .int v2, .int v3, .int v4], ?_, k1, ⟨cs, _, _, _, _, rfl, rfl, hcs, ⟨b1, ?_⟩, ⟨h2.1, by omega⟩, h3⟩⟩
    · simp [eVar, eC, eB, eU, eL, boolOf, eTest, eNotT, eAndT, eOrT, eNot, eAnd, eOr, eIf, aNil, aCons, eTup, eLst, eChain, sSkip, sSeq, sAsg, sPar, sExpr, sRet, sRetN, sIf, sBrk, sCont, sSub, eCall, eKw, runDef, begins, dI0, dI, dSub, dLt, dLe, dGt, dGe, dNeg, dInt, dAbs, dGcd, dDiv, dMod, sBind, bTup, bCons, bNil, bName, eMt, iSeq, iRange, ofRes, flowRes, srcOf, at1, hv, c1, c2, k2, e1, set1]
    · have := h1.2
      unfold Bt at this ⊢
      omega
  · have hz : v1 = 0 := by omega
    subst hz
    obtain ⟨q, e⟩ := hF v3 (v2 + 1) (h3.mono (by decide)) (by unfold Bt; omega) (cs.map D.int :: [.lst 0, .int 0, .int (v2 + 1), .int v3, .int v4] :: R)
    obtain ⟨k, k1, k2⟩ := int_fmod (r := q) hm
    have c1 : CModA q m := by unfold CModA; omega
    refine ⟨k, cs.map D.int, [.lst 0, .int 0, .int (v2 + 1), .int v3, .int v4], ?_, k1, ⟨cs, _, _, _, _, rfl, rfl, hcs, h1, ⟨by omega, by omega⟩, h3⟩⟩
    simp [eVar, eC, eB, eU, eL, boolOf, eTest, eNotT, eAndT, eOrT, eNot, eAnd, eOr, eIf, aNil, aCons, eTup, eLst, eChain, sSkip, sSeq, sAsg, sPar, sExpr, sRet, sRetN, sIf, sBrk, sCont, sSub, eCall, eKw, runDef, begins, dI0, dI, dSub, dLt, dLe, dGt, dGe, dNeg, dInt, dAbs, dGcd, dDiv, dMod, sBind, bTup, bCons, bNil, bName, eMt, iSeq, iRange, ofRes, flowRes, srcOf, at1, at2, at3, set2, e, c1, k2]
def E18 : Int := 10 ^ 18
def E64 : Int := 10 ^ 64
theorem p18 {S : Sto} : dPow (.int 10) (.int 18) S = some (.int E18, S) := pow10 18 (by decide)
theorem p64 {S : Sto} : dPow (.int 10) (.int 64) S = some (.int E64, S) := pow10 64 (by decide)
theorem b18 : Bt E18 60 := by unfold Bt E18; decide +kernel
theorem b64 : Bt E64 213 := by unfold Bt E64; decide +kernel
theorem z192 : 0 < E64 * E64 * E64 := by unfold E64; decide +kernel
section
variable {F : List D → Sto → Res D} {c X Y : Int} {cs : List Int} {v1 v2 v3 v4 q : Int} {m k : Nat} {R : Sto}
theorem tb1 (hl1 : (0 : Int) < (cs.length : Int) + 1)
   (hl0 : ∀ P R, dLen [.lst 0] ((.int c :: cs.map D.int) :: P :: R) = some (.int ((cs.length : Int) + 1), (.int c :: cs.map D.int) :: P :: R)) : (eAndT (eTest (eB dEq (eB dIx (eVar 0) (eC (.int 1))) (eC (.int 0)))) (eTest (eB dGt (eL dLen (aCons (eB dIx (eVar 0) (eC (.int 0))) aNil)) (eC (.int 0)))))
  [some (.lst 1), some (.int m), none, none] ((.int c :: cs.map D.int) :: [.lst 0, .int 0, .int v2, .int v3, .int v4] :: R) = .ok true ((.int c :: cs.map D.int) :: [.lst 0, .int 0, .int v2, .int v3, .int v4] :: R) := by
  simp [eVar, eC, eB, eU, eL, boolOf, eTest, eNotT, eAndT, eOrT, eNot, eAnd, eOr, eIf, aNil, aCons, eTup, eLst, eChain, sSkip, sSeq, sAsg, sPar, sExpr, sRet, sRetN, sIf, sBrk, sCont, sSub, eCall, eKw, runDef, begins, dI0, dI, dSub, dLt, dLe, dGt, dGe, dNeg, dInt, dAbs, dGcd, dDiv, dMod, sBind, bTup, bCons, bNil, bName, eMt, iSeq, iRange, ofRes, flowRes, srcOf, at0, at1, at2, hl0, hl1]
theorem tb2 (hp0 : mPopAt 0 [.int 0] ((.int c :: cs.map D.int) :: [.lst 0, .int 0, .int v2, .int v3, .int v4] :: R) = some (.int c, cs.map D.int :: [.lst 0, .int 0, .int v2, .int v3, .int v4] :: R)) : (sAsg 2 (eL dAbs (aCons (eMt mPopAt (eB dIx (eVar 0) (eC (.int 0))) (aCons (eC (.int 0)) aNil)) aNil)))
  [some (.lst 1), some (.int m), none, none] ((.int c :: cs.map D.int) :: [.lst 0, .int 0, .int v2, .int v3, .int v4] :: R) = .next [some (.lst 1), some (.int m), some (.int (c.natAbs : Int)), none] (cs.map D.int :: [.lst 0, .int 0, .int v2, .int v3, .int v4] :: R) := by
  simp [eVar, eC, eB, eU, eL, boolOf, eTest, eNotT, eAndT, eOrT, eNot, eAnd, eOr, eIf, aNil, aCons, eTup, eLst, eChain, sSkip, sSeq, sAsg, sPar, sExpr, sRet, sRetN, sIf, sBrk, sCont, sSub, eCall, eKw, runDef, begins, dI0, dI, dSub, dLt, dLe, dGt, dGe, dNeg, dInt, dAbs, dGcd, dDiv, dMod, sBind, bTup, bCons, bNil, bName, eMt, iSeq, iRange, ofRes, flowRes, srcOf, at0, at1, at2, hp0]
theorem tb3 (hs : (c.natAbs : Int) < X) (e : F [.int (c.natAbs : Int), .int (v2 + 1)] (cs.map D.int :: [.lst 0, .int 0, .int (v2 + 1), .int v3, .int v4] :: R) = .ok (.int q) (cs.map D.int :: [.lst 0, .int 0, .int (v2 + 1), .int v3, .int v4] :: R)) (c1 : CModA q m) (k2 : q.fmod m = k) : (sIf (eTest (eB dLt (eVar 2) (eC (.int X)))) (sSeq (sSub gSet (eVar 0) (eC (.int 2)) (eB dAdd (eB dIx (eVar 0) (eC (.int 2))) (eC (.int 1))))
 (sRet (eB dMod (eL dInt (aCons (eCall 2 F (aCons (eVar 2) (aCons (eB dIx (eVar 0) (eC (.int 2))) aNil))) aNil)) (eVar 1)))) sSkip)
  [some (.lst 1), some (.int m), some (.int (c.natAbs : Int)), none] (cs.map D.int :: [.lst 0, .int 0, .int v2, .int v3, .int v4] :: R) = .ret (.int k) (cs.map D.int :: [.lst 0, .int 0, .int (v2 + 1), .int v3, .int v4] :: R) := by
  simp [eVar, eC, eB, eU, eL, boolOf, eTest, eNotT, eAndT, eOrT, eNot, eAnd, eOr, eIf, aNil, aCons, eTup, eLst, eChain, sSkip, sSeq, sAsg, sPar, sExpr, sRet, sRetN, sIf, sBrk, sCont, sSub, eCall, eKw, runDef, begins, dI0, dI, dSub, dLt, dLe, dGt, dGe, dNeg, dInt, dAbs, dGcd, dDiv, dMod, sBind, bTup, bCons, bNil, bName, eMt, iSeq, iRange, ofRes, flowRes, srcOf, at0, at1, at2, set2, e, c1, k2, hs]
theorem tb4 {A : Es} (hs : ¬ (c.natAbs : Int) < X) : (sIf (eTest (eB dLt (eVar 2) (eC (.int X)))) A sSkip)
  [some (.lst 1), some (.int m), some (.int (c.natAbs : Int)), none] (cs.map D.int :: [.lst 0, .int 0, .int v2, .int v3, .int v4] :: R) = .next [some (.lst 1), some (.int m), some (.int (c.natAbs : Int)), none] (cs.map D.int :: [.lst 0, .int 0, .int v2, .int v3, .int v4] :: R) := by
  rw [if_f (S' := cs.map D.int :: [.lst 0, .int 0, .int v2, .int v3, .int v4] :: R) (by simp [eVar, eC, eB, eU, eL, boolOf, eTest, eNotT, eAndT, eOrT, eNot, eAnd, eOr, eIf, aNil, aCons, eTup, eLst, eChain, sSkip, sSeq, sAsg, sPar, sExpr, sRet, sRetN, sIf, sBrk, sCont, sSub, eCall, eKw, runDef, begins, dI0, dI, dSub, dLt, dLe, dGt, dGe, dNeg, dInt, dAbs, dGcd, dDiv, dMod, sBind, bTup, bCons, bNil, bName, eMt, iSeq, iRange, ofRes, flowRes, srcOf, hs])]
  rfl
theorem tb5 {W : Int} (m1 : CMulA Y Y) (m2 : CMulA (Y * Y) Y) (n1 : CModA (c.natAbs : Int) (Y * Y * Y)) (hW : (c.natAbs : Int).fmod (Y * Y * Y) = W) : (sSub gSet (eVar 0) (eC (.int 1)) (eB dMod (eL dInt (aCons (eVar 2) aNil)) (eB dMul (eB dMul (eC (.int Y)) (eC (.int Y))) (eC (.int Y)))))
  [some (.lst 1), some (.int m), some (.int (c.natAbs : Int)), none] (cs.map D.int :: [.lst 0, .int 0, .int v2, .int v3, .int v4] :: R) = .next [some (.lst 1), some (.int m), some (.int (c.natAbs : Int)), none] (cs.map D.int :: [.lst 0, .int W, .int v2, .int v3, .int v4] :: R) := by
  simp [eVar, eC, eB, eU, eL, boolOf, eTest, eNotT, eAndT, eOrT, eNot, eAnd, eOr, eIf, aNil, aCons, eTup, eLst, eChain, sSkip, sSeq, sAsg, sPar, sExpr, sRet, sRetN, sIf, sBrk, sCont, sSub, eCall, eKw, runDef, begins, dI0, dI, dSub, dLt, dLe, dGt, dGe, dNeg, dInt, dAbs, dGcd, dDiv, dMod, sBind, bTup, bCons, bNil, bName, eMt, iSeq, iRange, ofRes, flowRes, srcOf, set1, dMul_int m1, dMul_int m2, n1, hW]
end
theorem take_ok {C P : List D} {n m : Nat} {R : Sto} (h : Pl C P n) (hm : 0 < m) (hm2 : m < 2 ^ 60) (hn : n < 2 ^ 60) : ∃ (r : Nat) (C' P' : List D), rf__law_take [.lst 1, .int (m : Int)] (C :: P :: R) = .ok (.int (r : Int)) (C' :: P' :: R) ∧ r < m ∧ Pl C' P' (n + 1) := by
  obtain ⟨cs, v1, v2, v3, v4, rfl, rfl, hcs, h1, h2, h3⟩ := h.ex
  unfold rf__law_take runDef ev__law_take
  have hF : ∀ c t : Int, Bt c 1000 → Bt t 100 → ∀ S, ∃ r, rf__law_mixed [.int c, .int t] S = .ok (.int r) S := fun c t a b S => mixed_ok a b
  generalize rf__law_mixed = F at hF ⊢
  have h18 : eB dPow (eC (.int 10)) (eC (.int 18)) = eC (.int E18) := by
    funext ρ S
    simp only [eB, eC, Res.bind_ok]
    rw [p18]
    rfl
  have h64 : eB dPow (eC (.int 10)) (eC (.int 64)) = eC (.int E64) := by
    funext ρ S
    simp only [eB, eC, Res.bind_ok]
    rw [p64]
    rfl
  rw [h18, h64]
  have b18 := b18
  have b64 := b64
  have z192 := z192
  clear h18 h64
  generalize E18 = X at b18 ⊢
  generalize E64 = Y at b64 z192 ⊢
  by_cases hz : v4 = 0
  · subst hz
    refine ⟨0, _, _, ?_, hm, ⟨cs, v1, v2, v3, 0, rfl, rfl, hcs, h1, ⟨h2.1, by omega⟩, h3⟩⟩
    rw [seq_ret (d := .int 0) (S' := cs.map D.int :: [.lst 0, .int v1, .int v2, .int v3, .int 0] :: R) (by simp [eVar, eC, eB, eU, eL, boolOf, eTest, eNotT, eAndT, eOrT, eNot, eAnd, eOr, eIf, aNil, aCons, eTup, eLst, eChain, sSkip, sSeq, sAsg, sPar, sExpr, sRet, sRetN, sIf, sBrk, sCont, sSub, eCall, eKw, runDef, begins, dI0, dI, dSub, dLt, dLe, dGt, dGe, dNeg, dInt, dAbs, dGcd, dDiv, dMod, sBind, bTup, bCons, bNil, bName, eMt, iSeq, iRange, ofRes, flowRes, srcOf, at4])]
    rfl
  · rw [seq_next (ρ' := [some (.lst 1), some (.int m), none, none]) (S' := cs.map D.int :: [.lst 0, .int v1, .int v2, .int v3, .int v4] :: R) (by simp [eVar, eC, eB, eU, eL, boolOf, eTest, eNotT, eAndT, eOrT, eNot, eAnd, eOr, eIf, aNil, aCons, eTup, eLst, eChain, sSkip, sSeq, sAsg, sPar, sExpr, sRet, sRetN, sIf, sBrk, sCont, sSub, eCall, eKw, runDef, begins, dI0, dI, dSub, dLt, dLe, dGt, dGe, dNeg, dInt, dAbs, dGcd, dDiv, dMod, sBind, bTup, bCons, bNil, bName, eMt, iSeq, iRange, ofRes, flowRes, srcOf, at4, hz])]
    have hlen : ∀ cs : List Int, ∀ P R, dLen [.lst 0] (cs.map D.int :: P :: R) = some (.int cs.length, cs.map D.int :: P :: R) := fun cs P R => by
      rw [len_lst (xs := cs.map D.int) rfl]
      simp
    by_cases hp : v1 = 0 ∧ cs ≠ []
    · obtain ⟨hv, hc⟩ := hp
      subst hv
      match cs, hc with
      | c :: cs, _ =>
        have bc := hcs c (by simp)
        have hl1 : (0 : Int) < (cs.length : Int) + 1 := by omega
        by_cases hs : (c.natAbs : Int) < X
        · obtain ⟨q, e⟩ := hF (c.natAbs : Int) (v2 + 1) (Bt.mono (a := 60) (by have := b18; unfold Bt at this ⊢; omega) (by omega)) (by unfold Bt; omega) (cs.map D.int :: [.lst 0, .int 0, .int (v2 + 1), .int v3, .int v4] :: R)
          obtain ⟨k, k1, k2⟩ := int_fmod (r := q) hm
          have c1 : CModA q m := by unfold CModA; omega
          refine ⟨k, cs.map D.int, [.lst 0, .int 0, .int (v2 + 1), .int v3, .int v4], ?_, k1, ⟨cs, _, _, _, _, rfl, rfl, fun x hx => hcs x (by simp [hx]), h1, ⟨by omega, by omega⟩, h3⟩⟩
          rw [seq_ret (d := .int k) (S' := cs.map D.int :: [.lst 0, .int 0, .int (v2 + 1), .int v3, .int v4] :: R)]
          · rfl
          · have hl0 := hlen (c :: cs)
            have hp0 := pop_ok (c := c) (cs := cs) (P := [.lst 0, .int 0, .int v2, .int v3, .int v4]) (R := R)
            simp only [List.map_cons, List.length_cons, Int.natCast_add, Int.cast_ofNat_Int] at hl0 hp0
            rw [List.map_cons, if_t (tb1 hl1 hl0), seq_next (tb2 hp0), seq_ret (tb3 hs e c1 k2)]
        · have m1 : CMulA Y Y := mulA b64 b64 (by decide)
          have m2 : CMulA (Y * Y) Y := mulA (b64.mul b64) b64 (by decide)
          have n1 : CModA (c.natAbs : Int) (Y * Y * Y) := by
            have := z192
            unfold CModA
            omega
          obtain ⟨w1, w2⟩ := fmod_range (a := (c.natAbs : Int)) z192
          have w3 := bt_of (k := 700) w1 w2 (Nat.le_of_lt (Bt.mono ((b64.mul b64).mul b64) (by decide)))
          generalize hW : (c.natAbs : Int).fmod (Y * Y * Y) = W at w1 w2 w3
          obtain ⟨r, C', P', e1, e2, e3⟩ := take_rest F hF (cs := cs) (v1 := W) (v2 := v2) (v3 := v3) (v4 := v4) (x := some (.int (c.natAbs : Int))) (R := R) hm hm2 hn (fun x hx => hcs x (by simp [hx])) ⟨w1, w3⟩ h2 h3
          refine ⟨r, C', P', ?_, e2, e3⟩
          rw [seq_next (ρ' := [some (.lst 1), some (.int m), some (.int (c.natAbs : Int)), none]) (S' := cs.map D.int :: [.lst 0, .int W, .int v2, .int v3, .int v4] :: R)]
          · exact e1
          · have hl0 := hlen (c :: cs)
            have hp0 := pop_ok (c := c) (cs := cs) (P := [.lst 0, .int 0, .int v2, .int v3, .int v4]) (R := R)
            simp only [List.map_cons, List.length_cons, Int.natCast_add, Int.cast_ofNat_Int] at hl0 hp0
            rw [List.map_cons, if_t (tb1 hl1 hl0), seq_next (tb2 hp0), seq_next (tb4 hs), tb5 m1 m2 n1 hW]
    · obtain ⟨r, C', P', e1, e2, e3⟩ := take_rest F hF (cs := cs) (v1 := v1) (v2 := v2) (v3 := v3) (v4 := v4) (x := none) (R := R) hm hm2 hn hcs h1 h2 h3
      refine ⟨r, C', P', ?_, e2, e3⟩
      rw [seq_next (ρ' := [some (.lst 1), some (.int m), none, none]) (S' := cs.map D.int :: [.lst 0, .int v1, .int v2, .int v3, .int v4] :: R)]
      · exact e1
      · by_cases hv : v1 = 0
        · have hc : cs = [] := by
            by_cases q : cs = []
            · exact q
            · exact absurd ⟨hv, q⟩ hp
          subst hc hv
          have hl0 := hlen []
          simp only [List.map_nil] at hl0
          simp [eVar, eC, eB, eU, eL, boolOf, eTest, eNotT, eAndT, eOrT, eNot, eAnd, eOr, eIf, aNil, aCons, eTup, eLst, eChain, sSkip, sSeq, sAsg, sPar, sExpr, sRet, sRetN, sIf, sBrk, sCont, sSub, eCall, eKw, runDef, begins, dI0, dI, dSub, dLt, dLe, dGt, dGe, dNeg, dInt, dAbs, dGcd, dDiv, dMod, sBind, bTup, bCons, bNil, bName, eMt, iSeq, iRange, ofRes, flowRes, srcOf, at0, at1, hl0]
        · simp [eVar, eC, eB, eU, eL, boolOf, eTest, eNotT, eAndT, eOrT, eNot, eAnd, eOr, eIf, aNil, aCons, eTup, eLst, eChain, sSkip, sSeq, sAsg, sPar, sExpr, sRet, sRetN, sIf, sBrk, sCont, sSub, eCall, eKw, runDef, begins, dI0, dI, dSub, dLt, dLe, dGt, dGe, dNeg, dInt, dAbs, dGcd, dDiv, dMod, sBind, bTup, bCons, bNil, bName, eMt, iSeq, iRange, ofRes, flowRes, srcOf, at1, hv]
theorem pool_ok {ns : List Int} (hb : ∀ z ∈ ns, Bt z 2000000) : ∃ P, rf__law_pool [.frl (ns.map D.int)] [] = .ok (.lst 1) [ns.map D.int, P] ∧ Pl (ns.map D.int) P 0 := by
  obtain ⟨ρ', S', e1, e2, s, x, e3, hs0, hs1⟩ := for_all (st := fun _ => True) (b := bName 2)
    (body := sAsg 1 (eB dMod (eL dInt (aCons (eB dAdd (eB dAdd (eB dMul (eVar 1) (eC (.int 31403))) (eB dMul (eVar 2) (eC (.int 2)))) (eC (.int 5))) aNil)) (eC (.int 2147450051))))
    (fun i ρ S' => S' = [] ∧ ∃ (s : Int) (x : Option D), ρ = [some (.frl (ns.map D.int)), some (.int s), x] ∧ 0 ≤ s ∧ s < 2147450051) (fun _ _ _ _ => trivial) (ns.map D.int)
    [some (.frl (ns.map D.int)), some (.int 0), none] []
    (fun i x ρ S' hx hI => by
      obtain ⟨e, s, x', rfl, h0, h1⟩ := hI
      subst e
      obtain ⟨z, hz, rfl⟩ := int_at hx
      have bz := hb z (List.mem_of_getElem? hz)
      have bs : Bt s 31 := bt_of h0 h1 (by decide)
      have c1 := mulA (y := 31403) (b := 20) bs (by unfold Bt; decide) (by decide)
      have c2 := mulA (y := 2) (b := 2) bz (by unfold Bt; decide) (by decide)
      obtain ⟨f1, f2⟩ := fmod_range (a := s * 31403 + z * 2 + 5) (m := 2147450051) (by decide)
      have n1 : CModA (s * 31403 + z * 2 + 5) 2147450051 := by unfold CModA; decide
      refine ⟨_, [some (.frl (ns.map D.int)), some (.int ((s * 31403 + z * 2 + 5).fmod 2147450051)), some (.int z)], _, rfl, ?_, rfl, _, _, rfl, f1, f2⟩
      simp [eVar, eC, eB, eU, eL, boolOf, eTest, eNotT, eAndT, eOrT, eNot, eAnd, eOr, eIf, aNil, aCons, eTup, eLst, eChain, sSkip, sSeq, sAsg, sPar, sExpr, sRet, sRetN, sIf, sBrk, sCont, sSub, eCall, eKw, runDef, begins, dI0, dI, dSub, dLt, dLe, dGt, dGe, dNeg, dInt, dAbs, dGcd, dDiv, dMod, sBind, bTup, bCons, bNil, bName, eMt, iSeq, iRange, ofRes, flowRes, srcOf, dMul_int c1, dMul_int c2, n1])
    ⟨rfl, 0, none, rfl, by decide, by decide⟩
  subst e2 e3
  refine ⟨[.lst 0, .int 0, .int 0, .int s, .int ns.length], ?_, ⟨ns, 0, 0, s, ns.length, rfl, rfl, hb, ⟨by decide, Nat.pow_pos (by decide)⟩, ⟨by decide, by decide⟩, (bt_of (k := 31) hs0 hs1 (by decide)).mono (by decide)⟩⟩
  unfold rf__law_pool runDef ev__law_pool
  rw [seq_next (ρ' := [some (.frl (ns.map D.int)), some (.int 0), none]) (S' := []) (by simp [eVar, eC, eB, eU, eL, boolOf, eTest, eNotT, eAndT, eOrT, eNot, eAnd, eOr, eIf, aNil, aCons, eTup, eLst, eChain, sSkip, sSeq, sAsg, sPar, sExpr, sRet, sRetN, sIf, sBrk, sCont, sSub, eCall, eKw, runDef, begins, dI0, dI, dSub, dLt, dLe, dGt, dGe, dNeg, dInt, dAbs, dGcd, dDiv, dMod, sBind, bTup, bCons, bNil, bName, eMt, iSeq, iRange, ofRes, flowRes, srcOf])]
  rw [seq_next (ρ' := [some (.frl (ns.map D.int)), some (.int s), x]) (S' := [])]
  · simp [eVar, eC, eB, eU, eL, boolOf, eTest, eNotT, eAndT, eOrT, eNot, eAnd, eOr, eIf, aNil, aCons, eTup, eLst, eChain, sSkip, sSeq, sAsg, sPar, sExpr, sRet, sRetN, sIf, sBrk, sCont, sSub, eCall, eKw, runDef, begins, dI0, dI, dSub, dLt, dLe, dGt, dGe, dNeg, dInt, dAbs, dGcd, dDiv, dMod, sBind, bTup, bCons, bNil, bName, eMt, iSeq, iRange, ofRes, flowRes, srcOf, dLen, dListOf, itemsOf, dLst_ok]
  · unfold sFor
    simp only [eVar, eC, eB, eU, eL, boolOf, eTest, eNotT, eAndT, eOrT, eNot, eAnd, eOr, eIf, aNil, aCons, eTup, eLst, eChain, sSkip, sSeq, sAsg, sPar, sExpr, sRet, sRetN, sIf, sBrk, sCont, sSub, eCall, eKw, runDef, begins, dI0, dI, dSub, dLt, dLe, dGt, dGe, dNeg, dInt, dAbs, dGcd, dDiv, dMod, sBind, bTup, bCons, bNil, bName, eMt, iSeq, iRange, ofRes, flowRes, srcOf, Res.bind_ok, List.getElem?_cons_zero]
    exact e1
def TakeOk (F : List D → Sto → Res D) : Prop := ∀ (C P : List D) (n m : Nat) (R : Sto), Pl C P n → 0 < m → m < 2 ^ 60 → n < 2 ^ 60 → ∃ (r : Nat) (C' P' : List D), F [.lst 1, .int (m : Int)] (C :: P :: R) = .ok (.int (r : Int)) (C' :: P' :: R) ∧ r < m ∧ Pl C' P' (n + 1)
theorem take_is : TakeOk rf__law_take := fun C P n m R h a b c => take_ok h a b c
theorem Pl.mono {C P : List D} {n m : Nat} (h : Pl C P n) (k : n ≤ m) : Pl C P m := by
  obtain ⟨cs, v1, v2, v3, v4, a, b, c, d, e, f⟩ := h.ex
  exact ⟨cs, v1, v2, v3, v4, a, b, c, d, ⟨e.1, by omega⟩, f⟩
/-- a taking, as an expression -/
theorem tk_ok {F : List D → Sto → Res D} (hF : TakeOk F) {C P : List D} {n : Nat} {R : Sto} {ρ : MP.Env} {e : Ev} {m : Nat} (h : Pl C P n) (h0 : ρ[0]? = some (some (.lst 1))) (he : ∀ S, e ρ S = .ok (.int (m : Int)) S) (hm : 0 < m) (hm2 : m < 2 ^ 60) (hn : n < 2 ^ 60) :
    ∃ (r : Nat) (C' P' : List D), eCall 2 F (aCons (eVar 0) (aCons e aNil)) ρ (C :: P :: R) = .ok (.int (r : Int)) (C' :: P' :: R) ∧ r < m ∧ Pl C' P' (n + 1) := by
  obtain ⟨r, C', P', e1, e2, e3⟩ := hF C P n m R h hm hm2 hn
  exact ⟨r, C', P', by rw [call2 (var_ok h0) (he _), e1], e2, e3⟩
end LawM
end
section
set_option Elab.async false
set_option linter.all false
set_option maxRecDepth 100000
set_option maxHeartbeats 1000000
/-! L2: a picture parted: plain law. -/
namespace LawM
open PySem PySem.Spec PyProof.Rows L2 MP
def ins {α : Type} (c : List α) (k : Nat) (x : α) : List α := c.take k ++ [x] ++ c.drop k
def rep (c : List Int) (p x : Int) : List Int := c.set (c.idxOf p) x
def rot (c : List Int) (b : Nat) : List Int := c.drop b ++ c.take b
theorem ins_perm {α : Type} (c : List α) (k : Nat) (x : α) : (ins c k x).Perm (x :: c) := by
  unfold ins
  rw [List.append_assoc]
  refine List.perm_append_comm.trans ?_
  rw [List.singleton_append, List.cons_append]
  refine List.Perm.cons _ ?_
  exact List.perm_append_comm.trans (by rw [List.take_append_drop])
theorem rot_perm (c : List Int) (b : Nat) : (rot c b).Perm c := by
  unfold rot
  exact List.perm_append_comm.trans (by rw [List.take_append_drop])
theorem cut_at {c : List Int} {p : Int} (h : p ∈ c) : ∃ A B, c = A ++ p :: B ∧ c.idxOf p = A.length := by
  obtain ⟨A, B, e, hA⟩ := List.eq_append_cons_of_mem h
  refine ⟨A, B, e, ?_⟩
  rw [e, List.idxOf_append, if_neg hA]
  simp
theorem rep_cut {A B : List Int} {p x : Int} (h : (A ++ p :: B).idxOf p = A.length) : rep (A ++ p :: B) p x = A ++ x :: B := by
  unfold rep
  rw [h, List.set_append_right _ _ (Nat.le_refl _), Nat.sub_self]
  rfl
theorem rep_len (c : List Int) (p x : Int) : (rep c p x).length = c.length := by
  unfold rep
  rw [List.length_set]
theorem rep_mem {c : List Int} {p x : Int} (nd : c.Nodup) (h : p ∈ c) {y : Int} : y ∈ rep c p x ↔ (y ∈ c ∧ y ≠ p) ∨ y = x := by
  obtain ⟨A, B, e, hi⟩ := cut_at h
  subst e
  rw [rep_cut hi]
  have hpA : p ∉ A := fun z => by
    rw [List.nodup_append] at nd
    exact nd.2.2 p z p (by simp) rfl
  have hpB : p ∉ B := fun z => by
    rw [List.nodup_append, List.nodup_cons] at nd
    exact nd.2.1.1 z
  simp only [List.mem_append, List.mem_cons]
  constructor
  · rintro (a | rfl | a)
    · exact .inl ⟨.inl a, fun z => hpA (z ▸ a)⟩
    · exact .inr rfl
    · exact .inl ⟨.inr (.inr a), fun z => hpB (z ▸ a)⟩
  · rintro (⟨a | a | a, b⟩ | a)
    · exact .inl a
    · exact absurd a b
    · exact .inr (.inr a)
    · exact .inr (.inl a)
theorem rep_nd {c : List Int} {p x : Int} (nd : c.Nodup) (h : p ∈ c) (hx : x ∉ c) : (rep c p x).Nodup := by
  obtain ⟨A, B, e, hi⟩ := cut_at h
  subst e
  rw [rep_cut hi]
  have h1 : (x :: (A ++ B)).Nodup := by
    rw [List.nodup_cons]
    refine ⟨fun z => hx ?_, ?_⟩
    · rcases List.mem_append.mp z with z | z <;> simp [z]
    · exact List.Pairwise.sublist (List.Sublist.append (List.Sublist.refl A) (List.sublist_cons_self p B)) nd
  exact (List.Perm.nodup_iff List.perm_middle).mpr h1
/-- rows tied both ways -/
structure Sym (n : Nat) (Y : Nat → List Int) : Prop where
  len : ∀ i, i < n → 3 ≤ (Y i).length
  nd : ∀ i, i < n → (Y i).Nodup
  no : ∀ i, i < n → (i : Int) ∉ Y i
  lo : ∀ i, i < n → ∀ j ∈ Y i, -4 ≤ j
  hi : ∀ i, i < n → ∀ j ∈ Y i, j < n
  tie : ∀ i, i < n → ∀ j ∈ Y i, 0 ≤ j → (i : Int) ∈ Y j.toNat
/-- what a parting makes of a row -/
def partY (n : Nat) (Y : Nat → List Int) (old : Nat) (first last : Int) (m r : List Int) (x : Nat) : List Int :=
  if x = n then first :: (m ++ [last, (old : Int)]) else if x = old then last :: (r ++ [first, (n : Int)]) else if (x : Int) ∈ m then rep (Y x) old n
  else if (x : Int) = first then ins (Y x) ((Y x).idxOf (old : Int)) n else if (x : Int) = last then ins (Y x) ((Y x).idxOf (old : Int) + 1) n else Y x
theorem part_sym {n old : Nat} {Y : Nat → List Int} {first last : Int} {m r : List Int} (h : Sym n Y) (ho : old < n) (hp : (first :: (m ++ last :: r)).Perm (Y old)) : Sym (n + 1) (partY n Y old first last m r) := by
  have nd0 := (List.Perm.nodup_iff hp).mpr (h.nd old ho)
  have mem0 : ∀ y, y ∈ Y old ↔ y = first ∨ y ∈ m ∨ y = last ∨ y ∈ r := fun y => by
    rw [← List.Perm.mem_iff hp]
    simp
  have hnew : ∀ i, i < n → (n : Int) ∉ Y i := fun i hi z => by have := h.hi i hi _ z; omega
  rw [List.nodup_cons, List.nodup_append, List.nodup_cons] at nd0
  obtain ⟨q1, q2, ⟨q3, q4⟩, q5⟩ := nd0
  simp only [List.mem_append, List.mem_cons, not_or] at q1
  have hfl : first ≠ last := q1.2.1
  have l1 : ¬ (old : Int) ∈ Y old := h.no old ho
  -- the rows at each place
  have eN : partY n Y old first last m r n = first :: (m ++ [last, (old : Int)]) := by unfold partY; rw [if_pos rfl]
  have eO : partY n Y old first last m r old = last :: (r ++ [first, (n : Int)]) := by unfold partY; rw [if_neg (by omega), if_pos rfl]
  have back : ∀ x, x < n → (x : Int) ∈ Y old → (old : Int) ∈ Y x := fun x hx z => by
    have := h.tie old ho _ z (by omega)
    rwa [Int.toNat_natCast] at this
  -- membership, elsewhere
  have memX : ∀ x, x < n → x ≠ old → ∀ y, y ∈ partY n Y old first last m r x ↔ (y ∈ Y x ∧ (y = old → ¬ (x : Int) ∈ m)) ∨ (y = n ∧ ((x : Int) = first ∨ (x : Int) ∈ m ∨ (x : Int) = last)) := fun x hx hxo y => by
    unfold partY
    rw [if_neg (by omega), if_neg hxo]
    by_cases c1 : (x : Int) ∈ m
    · rw [if_pos c1, rep_mem (h.nd x hx) (back x hx ((mem0 _).mpr (.inr (.inl c1))))]
      constructor
      · rintro (⟨a, b⟩ | a)
        · exact .inl ⟨a, fun z => absurd z b⟩
        · exact .inr ⟨a, .inr (.inl c1)⟩
      · rintro (⟨a, b⟩ | ⟨a, b⟩)
        · exact .inl ⟨a, fun z => b z c1⟩
        · exact .inr a
    · rw [if_neg c1]
      by_cases c2 : (x : Int) = first
      · rw [if_pos c2, List.Perm.mem_iff (ins_perm _ _ _), List.mem_cons]
        constructor
        · rintro (a | a)
          · exact .inr ⟨a, .inl c2⟩
          · exact .inl ⟨a, fun _ => c1⟩
        · rintro (⟨a, _⟩ | ⟨a, _⟩)
          · exact .inr a
          · exact .inl a
      · rw [if_neg c2]
        by_cases c3 : (x : Int) = last
        · rw [if_pos c3, List.Perm.mem_iff (ins_perm _ _ _), List.mem_cons]
          constructor
          · rintro (a | a)
            · exact .inr ⟨a, .inr (.inr c3)⟩
            · exact .inl ⟨a, fun _ => c1⟩
          · rintro (⟨a, _⟩ | ⟨a, _⟩)
            · exact .inr a
            · exact .inl a
        · rw [if_neg c3]
          constructor
          · exact fun a => .inl ⟨a, fun _ => c1⟩
          · rintro (⟨a, _⟩ | ⟨_, a⟩)
            · exact a
            · rcases a with a | a | a
              · exact absurd a c2
              · exact absurd a c1
              · exact absurd a c3
  have memN : ∀ y, y ∈ partY n Y old first last m r n ↔ y = first ∨ y ∈ m ∨ y = last ∨ y = old := fun y => by rw [eN]; simp
  have memO : ∀ y, y ∈ partY n Y old first last m r old ↔ y = last ∨ y ∈ r ∨ y = first ∨ y = n := fun y => by rw [eO]; simp
  have ndX : ∀ x, x < n → x ≠ old → (partY n Y old first last m r x).Nodup := fun x hx hxo => by
    unfold partY
    rw [if_neg (by omega), if_neg hxo]
    by_cases c1 : (x : Int) ∈ m
    · rw [if_pos c1]
      exact rep_nd (h.nd x hx) (back x hx ((mem0 _).mpr (.inr (.inl c1)))) (hnew x hx)
    · rw [if_neg c1]
      by_cases c2 : (x : Int) = first
      · rw [if_pos c2, List.Perm.nodup_iff (ins_perm _ _ _), List.nodup_cons]
        exact ⟨hnew x hx, h.nd x hx⟩
      · rw [if_neg c2]
        by_cases c3 : (x : Int) = last
        · rw [if_pos c3, List.Perm.nodup_iff (ins_perm _ _ _), List.nodup_cons]
          exact ⟨hnew x hx, h.nd x hx⟩
        · rw [if_neg c3]
          exact h.nd x hx
  have lenX : ∀ x, x < n → x ≠ old → 3 ≤ (partY n Y old first last m r x).length := fun x hx hxo => by
    have := h.len x hx
    unfold partY
    rw [if_neg (by omega), if_neg hxo]
    by_cases c1 : (x : Int) ∈ m
    · rw [if_pos c1, rep_len]
      exact this
    · rw [if_neg c1]
      by_cases c2 : (x : Int) = first
      · rw [if_pos c2, (ins_perm _ _ _).length_eq, List.length_cons]
        omega
      · rw [if_neg c2]
        by_cases c3 : (x : Int) = last
        · rw [if_pos c3, (ins_perm _ _ _).length_eq, List.length_cons]
          omega
        · rw [if_neg c3]
          exact this
  have cs : ∀ i, i < n + 1 → i = n ∨ i = old ∨ (i < n ∧ i ≠ old) := fun i hi => by omega
  have lowO : ∀ y ∈ Y old, -4 ≤ y ∧ y < n ∧ y ≠ (old : Int) := fun y hy => ⟨h.lo old ho y hy, h.hi old ho y hy, fun z => l1 (z ▸ hy)⟩
  refine ⟨fun i hi => ?_, fun i hi => ?_, fun i hi => ?_, fun i hi j hj => ?_, fun i hi j hj => ?_, fun i hi j hj h0 => ?_⟩
  · rcases cs i hi with rfl | rfl | ⟨a, b⟩
    · rw [eN]
      simp
    · rw [eO]
      simp
    · exact lenX i a b
  · rcases cs i hi with rfl | rfl | ⟨a, b⟩
    · rw [eN, show first :: (m ++ [last, (old : Int)]) = (first :: (m ++ [last])) ++ [(old : Int)] by simp, List.nodup_append]
      have hs : (first :: (m ++ [last])).Sublist (first :: (m ++ last :: r)) := List.Sublist.cons_cons _ (List.Sublist.append (List.Sublist.refl m) (List.Sublist.cons_cons _ (List.nil_sublist r)))
      refine ⟨List.Pairwise.sublist hs ((List.Perm.nodup_iff hp).mpr (h.nd old ho)), by simp, fun a ha b hb z => ?_⟩
      simp at hb
      subst hb
      subst z
      exact l1 ((List.Perm.mem_iff hp).mp (hs.subset ha))
    · rw [eO, show last :: (r ++ [first, (n : Int)]) = ((last :: r) ++ [first]) ++ [(n : Int)] by simp, List.nodup_append]
      refine ⟨?_, by simp, fun a ha b hb z => ?_⟩
      · rw [List.nodup_append]
        exact ⟨List.nodup_cons.mpr ⟨q3, q4⟩, by simp, fun a ha b hb z => by
          simp at hb
          subst hb
          subst z
          rcases List.mem_cons.mp ha with e | e
          · exact hfl e
          · exact q1.2.2 e⟩
      · simp at hb
        subst hb
        subst z
        refine hnew _ ho ((mem0 _).mpr ?_)
        simp at ha
        rcases ha with e | e | e
        · exact .inr (.inr (.inl e))
        · exact .inr (.inr (.inr e))
        · exact .inl e
    · exact ndX i a b
  · rcases cs i hi with rfl | rfl | ⟨a, b⟩
    · intro z
      rcases (memN _).mp z with e | e | e | e
      · exact hnew _ ho ((mem0 _).mpr (.inl e))
      · exact hnew _ ho ((mem0 _).mpr (.inr (.inl e)))
      · exact hnew _ ho ((mem0 _).mpr (.inr (.inr (.inl e))))
      · omega
    · intro z
      rcases (memO _).mp z with e | e | e | e
      · exact l1 ((mem0 _).mpr (.inr (.inr (.inl e))))
      · exact l1 ((mem0 _).mpr (.inr (.inr (.inr e))))
      · exact l1 ((mem0 _).mpr (.inl e))
      · omega
    · intro z
      rcases (memX i a b _).mp z with ⟨e, _⟩ | ⟨e, _⟩
      · exact h.no i a e
      · omega
  · rcases cs i hi with rfl | rfl | ⟨a, b⟩
    · rcases (memN _).mp hj with e | e | e | e
      · exact (lowO j ((mem0 _).mpr (.inl e))).1
      · exact (lowO j ((mem0 _).mpr (.inr (.inl e)))).1
      · exact (lowO j ((mem0 _).mpr (.inr (.inr (.inl e))))).1
      · omega
    · rcases (memO _).mp hj with e | e | e | e
      · exact (lowO j ((mem0 _).mpr (.inr (.inr (.inl e))))).1
      · exact (lowO j ((mem0 _).mpr (.inr (.inr (.inr e))))).1
      · exact (lowO j ((mem0 _).mpr (.inl e))).1
      · omega
    · rcases (memX i a b _).mp hj with ⟨e, _⟩ | ⟨e, _⟩
      · exact h.lo i a j e
      · omega
  · rcases cs i hi with rfl | rfl | ⟨a, b⟩
    · rcases (memN _).mp hj with e | e | e | e
      · have := (lowO j ((mem0 _).mpr (.inl e))).2.1; omega
      · have := (lowO j ((mem0 _).mpr (.inr (.inl e)))).2.1; omega
      · have := (lowO j ((mem0 _).mpr (.inr (.inr (.inl e))))).2.1; omega
      · omega
    · rcases (memO _).mp hj with e | e | e | e
      · have := (lowO j ((mem0 _).mpr (.inr (.inr (.inl e))))).2.1; omega
      · have := (lowO j ((mem0 _).mpr (.inr (.inr (.inr e))))).2.1; omega
      · have := (lowO j ((mem0 _).mpr (.inl e))).2.1; omega
      · omega
    · rcases (memX i a b _).mp hj with ⟨e, _⟩ | ⟨e, _⟩
      · have := h.hi i a j e; omega
      · omega
  · rcases cs i hi with rfl | rfl | ⟨a, b⟩
    · -- a tie of the new one
      by_cases ejo : j = (old : Int)
      · subst ejo
        rw [Int.toNat_natCast]
        exact (memO _).mpr (.inr (.inr (.inr rfl)))
      · have hj2 : (j = first ∨ j ∈ m ∨ j = last) := by
          rcases (memN _).mp hj with e | e | e | e
          · exact .inl e
          · exact .inr (.inl e)
          · exact .inr (.inr e)
          · exact absurd e ejo
        have hjo : j ∈ Y old := (mem0 _).mpr (hj2.elim (fun e => .inl e) fun e => e.elim (fun e => .inr (.inl e)) fun e => .inr (.inr (.inl e)))
        have hjn := (lowO j hjo).2.1
        have ej : ((j.toNat : Nat) : Int) = j := Int.toNat_of_nonneg h0
        refine (memX j.toNat (by omega) (by omega) _).mpr (.inr ⟨rfl, ?_⟩)
        rw [ej]
        exact hj2
    · by_cases ejn : j = (n : Int)
      · subst ejn
        rw [Int.toNat_natCast]
        exact (memN _).mpr (.inr (.inr (.inr rfl)))
      · have hj2 : j = last ∨ j ∈ r ∨ j = first := by
          rcases (memO _).mp hj with e | e | e | e
          · exact .inl e
          · exact .inr (.inl e)
          · exact .inr (.inr e)
          · exact absurd e ejn
        have hjo : j ∈ Y i := (mem0 _).mpr (hj2.elim (fun e => .inr (.inr (.inl e))) fun e => e.elim (fun e => .inr (.inr (.inr e))) fun e => .inl e)
        have hjn := (lowO j hjo).2.1
        have hjo2 := (lowO j hjo).2.2
        have ej : ((j.toNat : Nat) : Int) = j := Int.toNat_of_nonneg h0
        refine (memX j.toNat (by omega) (by omega) _).mpr (.inl ⟨?_, fun _ z => ?_⟩)
        · exact h.tie i ho j hjo h0
        · rw [ej] at z
          rcases hj2 with e | e | e
          · exact q5 j z last (by simp) e
          · exact q5 j z j (by simp [e]) rfl
          · exact q1.1 (e ▸ z)
    · rcases (memX i a b _).mp hj with ⟨e, e2⟩ | ⟨e, e2⟩
      · by_cases ejo : j = (old : Int)
        · subst ejo
          rw [Int.toNat_natCast]
          have hio : (i : Int) ∈ Y old := by
            have := h.tie i a _ e h0
            rwa [Int.toNat_natCast] at this
          rcases (mem0 _).mp hio with z | z | z | z
          · exact (memO _).mpr (.inr (.inr (.inl z)))
          · exact absurd z (e2 rfl)
          · exact (memO _).mpr (.inl z)
          · exact (memO _).mpr (.inr (.inl z))
        · have hjn := h.hi i a j e
          refine (memX j.toNat (by omega) (by omega) _).mpr (.inl ⟨h.tie i a j e h0, fun z => by omega⟩)
      · subst e
        rw [Int.toNat_natCast]
        exact (memN _).mpr (e2.elim (fun e => .inl e) fun e => e.elim (fun e => .inr (.inl e)) fun e => .inr (.inr (.inl e)))
end LawM
end
section
set_option Elab.async false
set_option linter.all false
set_option maxRecDepth 100000
set_option maxHeartbeats 1000000
/-! L3: rows in the store; a picture parted. -/
namespace LawM
open PySem PySem.Spec PyProof.Rows L2 MP
structure Rows (S : Sto) (lo : Nat) (rs : List Nat) (X : Nat → List D) : Prop where
  lo2 : 2 ≤ lo
  at0 : S[lo]? = some (rs.map D.lst)
  nd : (lo :: rs).Nodup
  ge : ∀ r ∈ rs, 2 ≤ r
  at_ : ∀ (i r : Nat), rs[i]? = some r → S[r]? = some (X i)
structure Ext2 (S S' : Sto) : Prop where
  len : S.length ≤ S'.length
  keep : ∀ i, 2 ≤ i → i < S.length → S'[i]? = S[i]?
def Pool (n : Nat) (S : Sto) : Prop := ∃ C P R, S = C :: P :: R ∧ Pl C P n
theorem Ext2.refl (S : Sto) : Ext2 S S := ⟨Nat.le_refl _, fun _ _ _ => rfl⟩
theorem Ext2.app (S G : Sto) : Ext2 S (S ++ G) := ⟨by simp, fun i _ h => List.getElem?_append_left h⟩
theorem Ext2.trans {A B C : Sto} (h : Ext2 A B) (k : Ext2 B C) : Ext2 A C := ⟨Nat.le_trans h.len k.len, fun i a b => (k.keep i a (Nat.lt_of_lt_of_le b h.len)).trans (h.keep i a b)⟩
theorem Ext2.at_ {S S' : Sto} (h : Ext2 S S') {i : Nat} {xs : List D} (h2 : 2 ≤ i) (e : S[i]? = some xs) : S'[i]? = some xs := by
  rw [h.keep i h2 (List.getElem?_eq_some_iff.mp e).1]
  exact e
theorem Pool.app {n : Nat} {S : Sto} (h : Pool n S) (G : Sto) : Pool n (S ++ G) := by
  obtain ⟨C, P, R, rfl, h⟩ := h
  exact ⟨C, P, R ++ G, rfl, h⟩
theorem Pool.set {n : Nat} {S : Sto} (h : Pool n S) {l : Nat} (hl : 2 ≤ l) (xs : List D) : Pool n (S.set l xs) := by
  obtain ⟨C, P, R, rfl, h⟩ := h
  match l, hl with
  | l + 2, _ => exact ⟨C, P, R.set l xs, rfl, h⟩
theorem Pool.mono {n m : Nat} {S : Sto} (h : Pool n S) (k : n ≤ m) : Pool m S := by
  obtain ⟨C, P, R, rfl, h⟩ := h
  exact ⟨C, P, R, rfl, h.mono k⟩
section
variable {S S' : Sto} {lo : Nat} {rs : List Nat} {X X' : Nat → List D}
theorem Rows.ext (h : Rows S lo rs X) (e : Ext2 S S') : Rows S' lo rs X := ⟨h.lo2, e.at_ h.lo2 h.at0, h.nd, h.ge, fun i r q => e.at_ (h.ge r (List.mem_of_getElem? q)) (h.at_ i r q)⟩
theorem Rows.congr (h : Rows S lo rs X) (e : ∀ i, i < rs.length → X i = X' i) : Rows S lo rs X' := ⟨h.lo2, h.at0, h.nd, h.ge, fun i r q => by rw [← e i (List.getElem?_eq_some_iff.mp q).1]; exact h.at_ i r q⟩
theorem Rows.lt (h : Rows S lo rs X) {r : Nat} (hr : r ∈ lo :: rs) : r < S.length := by
  rcases List.mem_cons.mp hr with rfl | hr
  · exact (List.getElem?_eq_some_iff.mp h.at0).1
  · obtain ⟨i, e⟩ := List.getElem?_of_mem hr
    exact (List.getElem?_eq_some_iff.mp (h.at_ i r e)).1
theorem Rows.get (h : Rows S lo rs X) {i : Nat} (hi : i < rs.length) : ∃ r, rs[i]? = some r ∧ S[r]? = some (X i) ∧ dIx (.lst lo) (.int (i : Nat)) S = some (.lst r, S) := by
  have e := List.getElem?_eq_getElem hi
  exact ⟨rs[i], e, h.at_ i _ e, ix_lst (xs := rs.map D.lst) h.at0 (by rw [List.getElem?_map, e]; rfl)⟩
def updX (X : Nat → List D) (i : Nat) (ys : List D) : Nat → List D := fun x => if x = i then ys else X x
theorem Rows.setRow (h : Rows S lo rs X) {i r : Nat} (hi : rs[i]? = some r) (ys : List D) : Rows (S.set r ys) lo rs (updX X i ys) := by
  have hlo : lo ≠ r := fun z => (List.nodup_cons.mp h.nd).1 (z ▸ List.mem_of_getElem? hi)
  have hr : r < S.length := h.lt (List.mem_cons_of_mem _ (List.mem_of_getElem? hi))
  refine ⟨h.lo2, ?_, h.nd, h.ge, fun j q e => ?_⟩
  · rw [List.getElem?_set_ne (Ne.symm hlo)]
    exact h.at0
  · unfold updX
    by_cases c : j = i
    · subst c
      rw [hi] at e
      cases e
      rw [if_pos rfl, List.getElem?_set_self hr]
    · rw [if_neg c, List.getElem?_set_ne (fun z => ?_)]
      · exact h.at_ j q e
      · subst z
        exact c (RepS.write.nodup_ix' (List.nodup_cons.mp h.nd).2 e hi)
theorem Rows.setRef (h : Rows S lo rs X) {i r' : Nat} (hi : i < rs.length) (hr : r' ∉ lo :: rs) (h2 : 2 ≤ r') {ys : List D} (hy : S[r']? = some ys) : Rows (S.set lo ((rs.set i r').map D.lst)) lo (rs.set i r') (updX X i ys) := by
  have hlo : lo < S.length := h.lt (by simp)
  have nlo : ∀ r ∈ rs, r ≠ lo := fun r hr z => (List.nodup_cons.mp h.nd).1 (z ▸ hr)
  have mem : ∀ r, r ∈ rs.set i r' → r = r' ∨ r ∈ rs := fun r hm => by
    rcases List.mem_or_eq_of_mem_set hm with z | z
    · exact .inr z
    · exact .inl z
  refine ⟨h.lo2, ?_, ?_, fun r hm => ?_, fun j q e => ?_⟩
  · rw [List.getElem?_set_self hlo]
  · rw [List.nodup_cons]
    refine ⟨fun z => ?_, ?_⟩
    · rcases mem _ z with z | z
      · exact hr (by simp [z])
      · exact nlo _ z rfl
    · rw [List.nodup_iff_pairwise_ne, List.pairwise_iff_getElem]
      intro a b ha hb hab q
      rw [List.length_set] at ha hb
      have nd := (List.nodup_cons.mp h.nd).2
      rw [List.getElem_set, List.getElem_set] at q
      by_cases ca : i = a
      · rw [if_pos ca, if_neg (by omega)] at q
        exact hr (List.mem_cons_of_mem _ (q ▸ List.getElem_mem hb))
      · rw [if_neg ca] at q
        by_cases cb : i = b
        · rw [if_pos cb] at q
          exact hr (List.mem_cons_of_mem _ (q ▸ List.getElem_mem ha))
        · rw [if_neg cb] at q
          have := RepS.write.nodup_ix' nd (List.getElem?_eq_getElem ha) (by rw [q]; exact List.getElem?_eq_getElem hb)
          omega
  · rcases mem r hm with z | z
    · rw [z]
      exact h2
    · exact h.ge r z
  · have hq : q ≠ lo := fun z => by
      rcases mem q (List.mem_of_getElem? e) with w | w
      · exact hr (by rw [← w, z]; simp)
      · exact nlo _ w z
    rw [List.getElem?_set_ne (Ne.symm hq)]
    unfold updX
    by_cases c : j = i
    · subst c
      rw [List.getElem?_set_self hi] at e
      cases e
      rw [if_pos rfl]
      exact hy
    · rw [List.getElem?_set_ne (Ne.symm c)] at e
      rw [if_neg c]
      exact h.at_ j q e
theorem Rows.push (h : Rows S lo rs X) {r' : Nat} (hr : r' ∉ lo :: rs) (h2 : 2 ≤ r') {ys : List D} (hy : S[r']? = some ys) : Rows (S.set lo (rs.map D.lst ++ [.lst r'])) lo (rs ++ [r']) (updX X rs.length ys) := by
  have hlo : lo < S.length := h.lt (by simp)
  have nlo : ∀ r ∈ rs, r ≠ lo := fun r hr z => (List.nodup_cons.mp h.nd).1 (z ▸ hr)
  have hr1 : r' ≠ lo := fun z => hr (by simp [z])
  refine ⟨h.lo2, ?_, ?_, fun r hm => ?_, fun j q e => ?_⟩
  · rw [List.getElem?_set_self hlo, List.map_append]
    rfl
  · rw [← List.cons_append, List.nodup_append]
    exact ⟨h.nd, by simp, fun a ha b hb z => by simp at hb; subst hb; subst z; exact hr ha⟩
  · rcases List.mem_append.mp hm with z | z
    · exact h.ge r z
    · simp at z
      omega
  · have hq : q ≠ lo := fun z => by
      rcases List.mem_append.mp (List.mem_of_getElem? e) with w | w
      · exact nlo _ w z
      · simp at w
        omega
    rw [List.getElem?_set_ne (Ne.symm hq)]
    unfold updX
    rcases Nat.lt_or_ge j rs.length with c | c
    · rw [List.getElem?_append_left c] at e
      rw [if_neg (by omega)]
      exact h.at_ j q e
    · have : j = rs.length := by
        have := (List.getElem?_eq_some_iff.mp e).1
        simp at this
        omega
      subst this
      rw [List.getElem?_append_right (Nat.le_refl _), Nat.sub_self] at e
      cases e
      rw [if_pos rfl]
      exact hy
end
theorem cut_both {xs : List D} {j k : Nat} (h1 : j ≤ k) (h2 : k ≤ xs.length) : MP.cutD xs (some (j : Int)) (some (k : Int)) = (xs.take k).drop j := by
  unfold MP.cutD
  rw [HT.sIx_nat, HT.sIx_nat, Nat.min_eq_left h2, Nat.min_eq_left (by omega)]
  rw [List.drop_take]
def YD (Y : Nat → List Int) : Nat → List D := fun i => (Y i).map D.int
theorem ins_map (c : List Int) (k : Nat) (x : Int) : (c.map D.int).take k ++ [D.int x] ++ (c.map D.int).drop k = (ins c k x).map D.int := by
  unfold ins
  simp [List.map_take, List.map_drop]
/-- an insertion in a row -/
theorem insert_ok {S : Sto} {lo : Nat} {rs : List Nat} {X : Nat → List D} (R : Rows S lo rs X) {j : Nat} (hj : j < rs.length) {c : List Int} (hX : X j = c.map D.int) {old : Int} (ho : old ∈ c) (hc : c.length < 1000) {n : Int} {ρ : MP.Env} {eo : Ev} {k : Nat}
    (e0 : ∀ S', ∀ r, dIx (.lst lo) (.int (j : Nat)) S' = some (.lst r, S') → eo ρ S' = .ok (.lst r) S') {ei : Ev} (e1 : ∀ r, S[r]? = some (c.map D.int) → eo ρ S = .ok (.lst r) S → ei ρ S = .ok (.int (k : Nat)) S) (hk : k < 1000) {ex : Ev} (e2 : ∀ S', ex ρ S' = .ok (.int n) S') :
    ∃ r, rs[j]? = some r ∧ sExpr (eMt mInsert eo (aCons ei (aCons ex aNil))) ρ S = .next ρ (S.set r ((ins c k n).map D.int)) := by
  obtain ⟨r, h1, h2, h3⟩ := R.get hj
  rw [hX] at h2
  have e3 := e0 S r h3
  refine ⟨r, h1, expr_ok (d := .non) ?_⟩
  unfold eMt
  rw [e3, Res.bind_ok]
  have : aCons ei (aCons ex aNil) ρ S = .ok [.int (k : Nat), .int n] S := by
    unfold aCons aNil
    rw [e1 r h2 e3, Res.bind_ok, e2]
    rfl
  simp only [this, Res.bind_ok]
  unfold mInsert
  simp only [h2, Option.bind_some]
  rw [if_pos ⟨by rw [List.length_map]; exact Nat.lt_trans hc (by decide), by omega, by omega⟩, lift_some, Int.toNat_natCast, ins_map]
end LawM
end
section
set_option Elab.async false
set_option linter.all false
set_option maxRecDepth 100000
set_option maxHeartbeats 2000000
/-! L4: a picture parted: the walk. -/
namespace LawM
open PySem PySem.Spec PyProof.Rows L2 MP
theorem YD_at {Y : Nat → List Int} {i : Nat} : YD Y i = (Y i).map D.int := rfl
theorem row_len {n : Nat} {Y : Nat → List Int} (h : Sym n Y) {i : Nat} (hi : i < n) : (Y i).length ≤ n + 4 := by
  have := (h.nd i hi).length_le_of_subset (l₂ := (List.range (n + 4)).map fun k : Nat => (k : Int) - 4) fun x hx => by
    have a := h.lo i hi x hx
    have b := h.hi i hi x hx
    exact List.mem_map.mpr ⟨(x + 4).toNat, List.mem_range.mpr (by omega), by omega⟩
  simpa using this
def repK (Y : Nat → List Int) (m : List Int) (k : Nat) (old nw : Int) : Nat → List D := fun x => (if (x : Int) ∈ m.take k then rep (Y x) old nw else Y x).map D.int
theorem upd_rep {Y : Nat → List Int} {m : List Int} {j : Nat} {old nw : Int} {k : Nat} (hk : m[k]? = some (j : Int)) (x : Nat) : updX (repK Y m k old nw) j ((rep (Y j) old nw).map D.int) x = repK Y m (k + 1) old nw x := by
  unfold updX repK
  rw [take_next hk]
  by_cases c : x = j
  · subst c
    rw [if_pos rfl, if_pos (by simp)]
  · rw [if_neg c]
    have : ¬ (x : Int) = (j : Int) := by omega
    simp only [List.mem_append, List.mem_singleton, this, or_false]
theorem lst_2 {a b : Ev} {ρ : MP.Env} {S : Sto} {x y : D} (h1 : ∀ S, a ρ S = .ok x S) (h2 : ∀ S, b ρ S = .ok y S) : eLst (aCons a (aCons b aNil)) ρ S = .ok (.lst S.length) (S ++ [[x, y]]) := by
  simp [eLst, eL, aCons, aNil, h1, h2, dLst_ok]
theorem app_ok2 {i l : Nat} {e : Ev} {ρ : MP.Env} {S S1 : Sto} {xs : List D} {d : D} (h : ρ[i]? = some (some (.lst l))) (he : e ρ S = .ok d S1) (hl : S1[l]? = some xs) (hx : xs.length < 1000000) : eMt mAppend (eVar i) (aCons e aNil) ρ S = .ok .non (S1.set l (xs ++ [d])) := by
  unfold eMt
  rw [var_ok h, Res.bind_ok]
  simp only [args1 he, Res.bind_ok]
  unfold mAppend
  simp only [hl, Option.bind_some]
  rw [if_pos (show xs.length < most from hx), lift_some]
theorem part_ok {S : Sto} {lo : Nat} {rs : List Nat} {Y : Nat → List Int} {n old : Nat} {first last : Int} {N : Nat} (R : Rows S lo rs (YD Y)) (hl : rs.length = n) (h : Sym n Y) (ho : old < n) (hf : first ∈ Y old) (hla : last ∈ Y old) (hne : first ≠ last) (hn : n ≤ 90) (P : Pool N S) :
    ∃ S' rs' m r, rf__law_part [.lst lo, .int (old : Nat), .int first, .int last] S = .ok .non S' ∧ (first :: (m ++ last :: r)).Perm (Y old) ∧ Rows S' lo rs' (YD (partY n Y old first last m r)) ∧ rs'.length = n + 1 ∧ Pool N S' := by
  unfold rf__law_part runDef ev__law_part
  rw [show begins 10 [D.lst lo, .int (old : Nat), .int first, .int last] = [some (.lst lo), some (.int (old : Nat)), some (.int first), some (.int last), none, none, none, none, none, none] from rfl]
  have hro := row_len h ho
  obtain ⟨r0, g1, g2, g3⟩ := R.get (i := old) (by omega)
  rw [YD_at] at g2
  rw [seq_next (ret_asg (b_ok (var_ok rfl) (var_ok rfl) g3))]
  simp only [List.set_cons_zero, List.set_cons_succ]
  rw [seq_next (ret_asg (idxL_ok (var_ok rfl) (var_ok rfl) g2 (intsOf_ints _) hf))]
  simp only [List.set_cons_zero, List.set_cons_succ]
  have hb := idx_lt hf
  have r0l := (List.getElem?_eq_some_iff.mp g2).1
  -- turned
  have eT : eB dAdd (eSl (eVar 4) (some (eVar 5)) none) (eSl (eVar 4) none (some (eVar 5))) [some (.lst lo), some (.int (old : Nat)), some (.int first), some (.int last), some (.lst r0), some (.int ((Y old).idxOf first : Nat)), none, none, none, none] S =
      .ok (.lst (S.length + 2)) (S ++ [((Y old).drop ((Y old).idxOf first)).map D.int, ((Y old).take ((Y old).idxOf first)).map D.int, (rot (Y old) ((Y old).idxOf first)).map D.int]) := by
    have a1 := sl_hi (i := 4) (l := r0) (k := (Y old).idxOf first) (ρ := [some (D.lst lo), some (.int (old : Nat)), some (.int first), some (.int last), some (.lst r0), some (.int ((Y old).idxOf first : Nat)), none, none, none, none]) (S := S) (e := eVar 5) rfl g2 (var_ok rfl) (by rw [List.length_map]; omega)
    have a2 := sl_lo (i := 4) (l := r0) (k := (Y old).idxOf first) (ρ := [some (D.lst lo), some (.int (old : Nat)), some (.int first), some (.int last), some (.lst r0), some (.int ((Y old).idxOf first : Nat)), none, none, none, none]) (S := S ++ [((Y old).map D.int).drop ((Y old).idxOf first)]) (e := eVar 5) rfl (by rw [List.getElem?_append_left r0l]; exact g2) (var_ok rfl)
    refine (b_ok a1 a2 (add_lst (xs := ((Y old).map D.int).drop ((Y old).idxOf first)) (ys := ((Y old).map D.int).take ((Y old).idxOf first)) ?_ ?_ ?_)).trans ?_
    · rw [List.getElem?_append_left (by simp)]
      exact at_end _ _
    · exact at_end _ _
    · simp only [List.length_drop, List.length_take, List.length_map]
      omega
    · unfold rot
      simp [List.map_drop, List.map_take]
  rw [seq_next (ret_asg eT)]
  simp only [List.set_cons_zero, List.set_cons_succ]
  -- its parts
  have hlr : last ∈ rot (Y old) ((Y old).idxOf first) := (List.Perm.mem_iff (rot_perm _ _)).mpr hla
  have hhead : ∃ t, rot (Y old) ((Y old).idxOf first) = first :: t := by
    unfold rot
    rw [List.drop_eq_getElem_cons hb, List.getElem_idxOf]
    exact ⟨_, rfl⟩
  obtain ⟨t, ht⟩ := hhead
  have hlt : last ∈ t := by
    rw [ht] at hlr
    rcases List.mem_cons.mp hlr with z | z
    · exact absurd z.symm hne
    · exact z
  obtain ⟨m, r, hmr, hmi⟩ := cut_at hlt
  subst hmr
  have hp : (first :: (m ++ last :: r)).Perm (Y old) := ht ▸ rot_perm _ _
  have he : (first :: (m ++ last :: r)).idxOf last = m.length + 1 := by
    rw [List.idxOf_cons, show (first == last) = false from by simpa using hne]
    simp only [cond_false]
    rw [hmi]
  have hplen := hp.length_eq
  simp only [List.length_cons, List.length_append] at hplen
  rw [ht]
  generalize hS1 : S ++ [((Y old).drop ((Y old).idxOf first)).map D.int, ((Y old).take ((Y old).idxOf first)).map D.int, (first :: (m ++ last :: r)).map D.int] = S1
  have x1 : Ext2 S S1 := hS1 ▸ Ext2.app _ _
  have tl : S1[S.length + 2]? = some ((first :: (m ++ last :: r)).map D.int) := by
    rw [← hS1]
    simp
  have R1 := R.ext x1
  have P1 : Pool N S1 := hS1 ▸ P.app _
  have n1 : S.length + 2 < S1.length := (List.getElem?_eq_some_iff.mp tl).1
  have ntau : S.length + 2 ∉ lo :: rs := fun z => by have := R.lt z; omega
  have hlrs : ∀ q ∈ lo :: rs, q < S.length := fun q z => R.lt z
  clear hS1 eT g3
  have ntau2 : 2 ≤ S.length + 2 := by omega
  generalize S.length + 2 = τ at *
  rw [seq_next (ret_asg (idxL_ok (var_ok rfl) (var_ok rfl) tl (intsOf_ints _) (by rw [← ht]; exact hlr)))]
  simp only [List.set_cons_zero, List.set_cons_succ]
  rw [he]
  rw [seq_next (ret_asg ((len_ev (i := 0) rfl R1.at0).trans (by rw [List.length_map, hl])))]
  simp only [List.set_cons_zero, List.set_cons_succ]
  have hmo : ∀ j ∈ m, j ∈ Y old := fun j hj => (List.Perm.mem_iff hp).mp (by simp [hj])
  have nd0 := (List.Perm.nodup_iff hp).mpr (h.nd old ho)
  rw [List.nodup_cons, List.nodup_append, List.nodup_cons] at nd0
  obtain ⟨q1, q2, ⟨q3, q4⟩, q5⟩ := nd0
  simp only [List.mem_append, List.mem_cons, not_or] at q1
  have q6 : last ∉ m := fun z => q5 last z last (by simp) rfl
  have hlo : ∀ {j : Int}, j ∈ Y old → 0 ≤ j → j.toNat < n ∧ ((j.toNat : Nat) : Int) = j ∧ (old : Int) ∈ Y j.toNat := fun {j} hj h0 => by
    have := h.hi old ho j hj
    exact ⟨by omega, Int.toNat_of_nonneg h0, h.tie old ho j hj h0⟩
  have hcut : MP.cutD ((first :: (m ++ last :: r)).map D.int) (some 1) (some ((m.length + 1 : Nat) : Int)) = m.map D.int := by
    rw [show (1 : Int) = ((1 : Nat) : Int) from rfl, cut_both (by omega) (by simp)]
    simp [List.map_append]
  have eS := sl_both (i := 6) (l := τ) (ρ := [some (D.lst lo), some (.int (old : Nat)), some (.int first), some (.int last), some (.lst r0), some (.int ((Y old).idxOf first : Nat)), some (.lst τ), some (.int ((m.length + 1 : Nat) : Int)), some (.int (n : Nat)), none]) (S := S1) (e1 := eC (.int 1)) (e2 := eVar 7) (j := 1) (k := ((m.length + 1 : Nat) : Int)) rfl tl c_ok (var_ok rfl)
  rw [hcut] at eS
  have hσ := at_end S1 (m.map D.int)
  have nσ : S1.length ∉ lo :: rs := fun z => by have := hlrs _ z; have := x1.len; omega
  obtain ⟨ρ2, S2, l1, ⟨x9, l2⟩, l3, l4, l5, l6⟩ := for_all (st := fun S' => S'[S1.length]? = some (m.map D.int)) (b := bName 9) (body := (sIf (eTest (eB dGe (eVar 9) (eC (.int 0))))
 (sSub gSet (eB dIx (eVar 0) (eVar 9)) (eIdx (eB dIx (eVar 0) (eVar 9)) (eVar 1)) (eVar 8))
 sSkip)) (fun k ρ S' => (∃ x9, ρ = [some (D.lst lo), some (.int (old : Nat)), some (.int first), some (.int last), some (.lst r0), some (.int ((Y old).idxOf first : Nat)), some (.lst τ), some (.int ((m.length + 1 : Nat) : Int)), some (.int (n : Nat)), x9]) ∧ Rows S' lo rs (repK Y m k old n) ∧ S'[S1.length]? = some (m.map D.int) ∧ S'[τ]? = some ((first :: (m ++ last :: r)).map D.int) ∧ Pool N S') (fun i ρ S hI => hI.2.2.1) (m.map D.int)
    [some (D.lst lo), some (.int (old : Nat)), some (.int first), some (.int last), some (.lst r0), some (.int ((Y old).idxOf first : Nat)), some (.lst τ), some (.int ((m.length + 1 : Nat) : Int)), some (.int (n : Nat)), none] (S1 ++ [m.map D.int]) (fun k x ρ S' hx hI => by
      obtain ⟨⟨x9, rfl⟩, hR, hs, htt, hP⟩ := hI
      obtain ⟨j, hj, rfl⟩ := int_at hx
      have hjm := List.mem_of_getElem? hj
      refine ⟨[some (D.lst lo), some (.int (old : Nat)), some (.int first), some (.int last), some (.lst r0), some (.int ((Y old).idxOf first : Nat)), some (.lst τ), some (.int ((m.length + 1 : Nat) : Int)), some (.int (n : Nat)), some (.int j)], ?_⟩
      have t1 : eTest (eB dGe (eVar 9) (eC (.int 0))) [some (D.lst lo), some (.int (old : Nat)), some (.int first), some (.int last), some (.lst r0), some (.int ((Y old).idxOf first : Nat)), some (.lst τ), some (.int ((m.length + 1 : Nat) : Int)), some (.int (n : Nat)), some (.int j)] S' = .ok (decide (0 ≤ j)) S' := test_ok (ge_ok (var_ok rfl) c_ok)
      by_cases h0 : 0 ≤ j
      · rw [decide_eq_true h0] at t1
        obtain ⟨z1, z2, z3⟩ := hlo (hmo j hjm) h0
        obtain ⟨rj, k1, k2, k3⟩ := hR.get (i := j.toNat) (by omega)
        have nk : ((j.toNat : Nat) : Int) ∉ m.take k := by
          rw [z2]
          intro z
          have nd := q2
          rw [← List.take_append_drop k m, List.nodup_append] at nd
          exact nd.2.2 j z j (List.mem_of_getElem? (i := 0) (by rw [List.getElem?_drop]; exact hj)) rfl
        rw [show repK Y m k old n j.toNat = (Y j.toNat).map D.int from by unfold repK; rw [if_neg nk]] at k2
        rw [z2] at k3
        have eo : eB dIx (eVar 0) (eVar 9) [some (D.lst lo), some (.int (old : Nat)), some (.int first), some (.int last), some (.lst r0), some (.int ((Y old).idxOf first : Nat)), some (.lst τ), some (.int ((m.length + 1 : Nat) : Int)), some (.int (n : Nat)), some (.int j)] S' = .ok (.lst rj) S' := b_ok (var_ok rfl) (var_ok rfl) k3
        have ei : eIdx (eB dIx (eVar 0) (eVar 9)) (eVar 1) [some (D.lst lo), some (.int (old : Nat)), some (.int first), some (.int last), some (.lst r0), some (.int ((Y old).idxOf first : Nat)), some (.lst τ), some (.int ((m.length + 1 : Nat) : Int)), some (.int (n : Nat)), some (.int j)] S' = .ok (.int ((Y j.toNat).idxOf (old : Int) : Nat)) S' := idxL_ok eo (var_ok rfl) k2 (intsOf_ints _) z3
        have es := sub_next (g := gSet) (e := eVar 8) (v := .int (n : Nat)) (var_ok rfl) eo ei (set_lst k2 (by rw [List.length_map]; exact idx_lt z3))
        have hrl : rj ∈ lo :: rs := List.mem_cons_of_mem _ (List.mem_of_getElem? k1)
        have h2r : 2 ≤ rj := hR.ge rj (List.mem_of_getElem? k1)
        refine ⟨_, _, rfl, (if_t t1).trans es, ⟨_, rfl⟩, ?_, ?_, ?_, hP.set h2r _⟩
        · have := (hR.setRow k1 (((Y j.toNat).map D.int).set ((Y j.toNat).idxOf (old : Int)) (.int (n : Nat)))).congr (X' := repK Y m (k + 1) old n) fun i _ => by
            rw [← List.map_set]
            exact upd_rep (by rw [z2]; exact hj) i
          exact this
        · rw [List.getElem?_set_ne (show rj ≠ S1.length from fun z => nσ (z ▸ hrl))]
          exact hs
        · rw [List.getElem?_set_ne (show rj ≠ τ from fun z => ntau (z ▸ hrl))]
          exact htt
      · rw [decide_eq_false h0] at t1
        refine ⟨_, _, rfl, if_s t1, ⟨_, rfl⟩, hR.congr fun i _ => ?_, hs, htt, hP⟩
        unfold repK
        rw [take_next hj]
        have : ¬ (i : Int) = j := by omega
        simp only [List.mem_append, List.mem_singleton, this, or_false]) ⟨⟨none, rfl⟩, (R1.ext (Ext2.app _ _)).congr fun i _ => by simp [YD, repK], hσ, by rw [List.getElem?_append_left n1]; exact tl, P1.app _⟩
  subst l2
  rw [seq_next (for_lst eS hσ l1)]
  rw [List.length_map] at l3
  have l3' : Rows S2 lo rs (fun x => (if (x : Int) ∈ m then rep (Y x) old n else Y x).map D.int) := l3.congr fun i _ => by unfold repK; rw [List.take_length]
  clear l1 l3 l4 eS hσ
  -- the first
  obtain ⟨S3, a1, a2, a3, a4⟩ : ∃ S3, sIf (eTest (eB dGe (eVar 2) (eC (.int 0)))) (sExpr (eMt mInsert (eB dIx (eVar 0) (eVar 2)) (aCons (eIdx (eB dIx (eVar 0) (eVar 2)) (eVar 1)) (aCons (eVar 8) aNil)))) sSkip [some (D.lst lo), some (.int (old : Nat)), some (.int first), some (.int last), some (.lst r0), some (.int ((Y old).idxOf first : Nat)), some (.lst τ), some (.int ((m.length + 1 : Nat) : Int)), some (.int (n : Nat)), x9] S2 = .next [some (D.lst lo), some (.int (old : Nat)), some (.int first), some (.int last), some (.lst r0), some (.int ((Y old).idxOf first : Nat)), some (.lst τ), some (.int ((m.length + 1 : Nat) : Int)), some (.int (n : Nat)), x9] S3 ∧
      Rows S3 lo rs (fun x => (if (x : Int) ∈ m then rep (Y x) old n else if (x : Int) = first then ins (Y x) ((Y x).idxOf (old : Int)) n else Y x).map D.int) ∧ S3[τ]? = some ((first :: (m ++ last :: r)).map D.int) ∧ Pool N S3 := by
    have t1 : eTest (eB dGe (eVar 2) (eC (.int 0))) [some (D.lst lo), some (.int (old : Nat)), some (.int first), some (.int last), some (.lst r0), some (.int ((Y old).idxOf first : Nat)), some (.lst τ), some (.int ((m.length + 1 : Nat) : Int)), some (.int (n : Nat)), x9] S2 = .ok (decide (0 ≤ first)) S2 := test_ok (ge_ok (var_ok rfl) c_ok)
    by_cases h0 : 0 ≤ first
    · rw [decide_eq_true h0] at t1
      obtain ⟨z1, z2, z3⟩ := hlo hf h0
      obtain ⟨rj, k1, k2⟩ := insert_ok (n := (n : Nat)) (k := (Y first.toNat).idxOf (old : Int)) (ei := eIdx (eB dIx (eVar 0) (eVar 2)) (eVar 1)) (ex := eVar 8) (eo := eB dIx (eVar 0) (eVar 2)) (ρ := [some (D.lst lo), some (.int (old : Nat)), some (.int first), some (.int last), some (.lst r0), some (.int ((Y old).idxOf first : Nat)), some (.lst τ), some (.int ((m.length + 1 : Nat) : Int)), some (.int (n : Nat)), x9]) l3' (j := first.toNat) (by omega) (c := Y first.toNat) (by
          show List.map D.int (if ((first.toNat : Nat) : Int) ∈ m then _ else _) = _
          rw [z2, if_neg q1.1]) z3 (by have := row_len h z1; omega) (fun S' r q => b_ok (var_ok rfl) (var_ok rfl) (by rw [← z2]; exact q)) (fun r q w => idxL_ok w (var_ok rfl) q (intsOf_ints _) z3) (by have := row_len h z1; have := idx_lt z3; omega) (fun S' => var_ok rfl)
      have hrl : rj ∈ lo :: rs := List.mem_cons_of_mem _ (List.mem_of_getElem? k1)
      refine ⟨_, (if_t t1).trans k2, (l3'.setRow k1 _).congr fun i _ => ?_, ?_, l6.set (l3'.ge rj (List.mem_of_getElem? k1)) _⟩
      · unfold updX
        by_cases c : i = first.toNat
        · subst c
          rw [if_pos rfl, if_neg (by rw [z2]; exact q1.1), if_pos z2]
        · rw [if_neg c]
          have : ¬ (i : Int) = first := by omega
          simp only [this, if_false]
      · rw [List.getElem?_set_ne (show rj ≠ τ from fun z => ntau (z ▸ hrl))]
        exact l5
    · rw [decide_eq_false h0] at t1
      refine ⟨S2, if_s t1, l3'.congr fun i _ => ?_, l5, l6⟩
      have : ¬ (i : Int) = first := by omega
      simp only [this, if_false]
  rw [seq_next a1]
  clear a1 l3' l5 l6
  -- the last
  obtain ⟨S4, b1, b2, b3, b4⟩ : ∃ S4, sIf (eTest (eB dGe (eVar 3) (eC (.int 0)))) (sExpr (eMt mInsert (eB dIx (eVar 0) (eVar 3)) (aCons (eB dAdd (eIdx (eB dIx (eVar 0) (eVar 3)) (eVar 1)) (eC (.int 1))) (aCons (eVar 8) aNil)))) sSkip [some (D.lst lo), some (.int (old : Nat)), some (.int first), some (.int last), some (.lst r0), some (.int ((Y old).idxOf first : Nat)), some (.lst τ), some (.int ((m.length + 1 : Nat) : Int)), some (.int (n : Nat)), x9] S3 = .next [some (D.lst lo), some (.int (old : Nat)), some (.int first), some (.int last), some (.lst r0), some (.int ((Y old).idxOf first : Nat)), some (.lst τ), some (.int ((m.length + 1 : Nat) : Int)), some (.int (n : Nat)), x9] S4 ∧
      Rows S4 lo rs (fun x => (if (x : Int) ∈ m then rep (Y x) old n else if (x : Int) = first then ins (Y x) ((Y x).idxOf (old : Int)) n else if (x : Int) = last then ins (Y x) ((Y x).idxOf (old : Int) + 1) n else Y x).map D.int) ∧ S4[τ]? = some ((first :: (m ++ last :: r)).map D.int) ∧ Pool N S4 := by
    have t1 : eTest (eB dGe (eVar 3) (eC (.int 0))) [some (D.lst lo), some (.int (old : Nat)), some (.int first), some (.int last), some (.lst r0), some (.int ((Y old).idxOf first : Nat)), some (.lst τ), some (.int ((m.length + 1 : Nat) : Int)), some (.int (n : Nat)), x9] S3 = .ok (decide (0 ≤ last)) S3 := test_ok (ge_ok (var_ok rfl) c_ok)
    by_cases h0 : 0 ≤ last
    · rw [decide_eq_true h0] at t1
      obtain ⟨z1, z2, z3⟩ := hlo hla h0
      obtain ⟨rj, k1, k2⟩ := insert_ok (n := (n : Nat)) (k := (Y last.toNat).idxOf (old : Int) + 1) (ei := eB dAdd (eIdx (eB dIx (eVar 0) (eVar 3)) (eVar 1)) (eC (.int 1))) (ex := eVar 8) (eo := eB dIx (eVar 0) (eVar 3)) (ρ := [some (D.lst lo), some (.int (old : Nat)), some (.int first), some (.int last), some (.lst r0), some (.int ((Y old).idxOf first : Nat)), some (.lst τ), some (.int ((m.length + 1 : Nat) : Int)), some (.int (n : Nat)), x9]) a2 (j := last.toNat) (by omega) (c := Y last.toNat) (by
          show List.map D.int (if ((last.toNat : Nat) : Int) ∈ m then _ else if ((last.toNat : Nat) : Int) = first then _ else _) = _
          rw [z2, if_neg q6, if_neg (Ne.symm hne)]) z3 (by have := row_len h z1; omega) (fun S' r q => b_ok (var_ok rfl) (var_ok rfl) (by rw [← z2]; exact q)) (fun r q w => add_ok (x := (((Y last.toNat).idxOf (old : Int) : Nat) : Int)) (y := 1) (idxL_ok w (var_ok rfl) q (intsOf_ints _) z3) c_ok) (by have := row_len h z1; have := idx_lt z3; omega) (fun S' => var_ok rfl)
      have hrl : rj ∈ lo :: rs := List.mem_cons_of_mem _ (List.mem_of_getElem? k1)
      refine ⟨_, (if_t t1).trans k2, (a2.setRow k1 _).congr fun i _ => ?_, ?_, a4.set (a2.ge rj (List.mem_of_getElem? k1)) _⟩
      · unfold updX
        by_cases c : i = last.toNat
        · subst c
          rw [if_pos rfl, if_neg (by rw [z2]; exact q6), if_neg (by rw [z2]; exact Ne.symm hne), if_pos z2]
        · rw [if_neg c]
          have : ¬ (i : Int) = last := by omega
          simp only [this, if_false]
      · rw [List.getElem?_set_ne (show rj ≠ τ from fun z => ntau (z ▸ hrl))]
        exact a3
    · rw [decide_eq_false h0] at t1
      refine ⟨S3, if_s t1, a2.congr fun i _ => ?_, a3, a4⟩
      have : ¬ (i : Int) = last := by omega
      simp only [this, if_false]
  rw [seq_next b1]
  clear b1 a2 a3 a4
  -- the old one's row
  have τl := (List.getElem?_eq_some_iff.mp b3).1
  have eO : eB dAdd (eSl (eVar 6) (some (eVar 7)) none) (eLst (aCons (eVar 2) (aCons (eVar 8) aNil))) [some (D.lst lo), some (.int (old : Nat)), some (.int first), some (.int last), some (.lst r0), some (.int ((Y old).idxOf first : Nat)), some (.lst τ), some (.int ((m.length + 1 : Nat) : Int)), some (.int (n : Nat)), x9] S4 =
      .ok (.lst (S4.length + 2)) (S4 ++ [(last :: r).map D.int, [.int first, .int (n : Nat)], (last :: (r ++ [first, (n : Int)])).map D.int]) := by
    have a1 := sl_hi (i := 6) (l := τ) (k := m.length + 1) (ρ := [some (D.lst lo), some (.int (old : Nat)), some (.int first), some (.int last), some (.lst r0), some (.int ((Y old).idxOf first : Nat)), some (.lst τ), some (.int ((m.length + 1 : Nat) : Int)), some (.int (n : Nat)), x9]) (S := S4) (e := eVar 7) rfl b3 (var_ok rfl) (by simp)
    rw [show ((first :: (m ++ last :: r)).map D.int).drop (m.length + 1) = (last :: r).map D.int from by rw [← List.map_drop, List.drop_succ_cons, List.drop_left]] at a1
    refine (b_ok a1 (lst_2 (fun S => var_ok rfl) (fun S => var_ok rfl)) (add_lst (xs := (last :: r).map D.int) (ys := [.int first, .int (n : Nat)]) ?_ (at_end _ _) ?_)).trans ?_
    · rw [List.getElem?_append_left (by simp)]
      exact at_end _ _
    · simp only [List.length_map, List.length_cons, List.length_nil]
      omega
    · simp
  generalize hS5 : S4 ++ [(last :: r).map D.int, [.int first, .int (n : Nat)], (last :: (r ++ [first, (n : Int)])).map D.int] = S5 at eO
  have x5 : Ext2 S4 S5 := hS5 ▸ Ext2.app _ _
  have R5 := b2.ext x5
  have P5 : Pool N S5 := hS5 ▸ b4.app _
  have o5 : S5[S4.length + 2]? = some ((last :: (r ++ [first, (n : Int)])).map D.int) := by rw [← hS5]; simp
  have t5 := x5.at_ ntau2 b3
  have n5 : S4.length + 2 ∉ lo :: rs := fun z => by have := b2.lt z; omega
  have e5 := sub_next (g := gSet) eO (var_ok (i := 0) (d := .lst lo) rfl) (var_ok (i := 1) (d := .int (old : Nat)) rfl) (set_lst (k := old) R5.at0 (by rw [List.length_map]; omega))
  rw [seq_next e5, ← List.map_set]
  have R6 := R5.setRef (i := old) (by omega) n5 (by omega) o5
  have P6 := P5.set R5.lo2 ((rs.set old (S4.length + 2)).map D.lst)
  have hl6 : (S5.set lo ((rs.set old (S4.length + 2)).map D.lst)).length = S5.length := List.length_set
  have t6 : (S5.set lo ((rs.set old (S4.length + 2)).map D.lst))[τ]? = some ((first :: (m ++ last :: r)).map D.int) := by
    rw [List.getElem?_set_ne (fun z => ntau (by rw [z]; simp))]
    exact t5
  have n6 : ∀ q ∈ lo :: rs.set old (S4.length + 2), q < S5.length := fun q z => by
    have := R6.lt z
    omega
  generalize S5.set lo ((rs.set old (S4.length + 2)).map D.lst) = S6 at R6 P6 t6 hl6 ⊢
  clear e5 eO R5 P5 o5 t5 hS5 b2 b3 b4 R1 P1 R P
  -- the new one's row
  have τ6 := (List.getElem?_eq_some_iff.mp t6).1
  have eN : eB dAdd (eSl (eVar 6) none (some (eB dAdd (eVar 7) (eC (.int 1))))) (eLst (aCons (eVar 1) aNil)) [some (D.lst lo), some (.int (old : Nat)), some (.int first), some (.int last), some (.lst r0), some (.int ((Y old).idxOf first : Nat)), some (.lst τ), some (.int ((m.length + 1 : Nat) : Int)), some (.int (n : Nat)), x9] S6 =
      .ok (.lst (S6.length + 2)) (S6 ++ [(first :: (m ++ [last])).map D.int, [.int (old : Nat)], (first :: (m ++ [last, (old : Int)])).map D.int]) := by
    have a1 := sl_lo (i := 6) (l := τ) (k := m.length + 2) (ρ := [some (D.lst lo), some (.int (old : Nat)), some (.int first), some (.int last), some (.lst r0), some (.int ((Y old).idxOf first : Nat)), some (.lst τ), some (.int ((m.length + 1 : Nat) : Int)), some (.int (n : Nat)), x9]) (S := S6) (e := eB dAdd (eVar 7) (eC (.int 1))) rfl t6 (add_ok (x := ((m.length + 1 : Nat) : Int)) (y := 1) (var_ok rfl) c_ok)
    rw [show ((first :: (m ++ last :: r)).map D.int).take (m.length + 2) = (first :: (m ++ [last])).map D.int from by
      rw [← List.map_take, List.take_succ_cons, List.take_append, List.take_of_length_le (by omega), show m.length + 1 - m.length = 1 by omega]
      rfl] at a1
    refine (b_ok a1 (lst1 (fun S => var_ok rfl)) (add_lst (xs := (first :: (m ++ [last])).map D.int) (ys := [.int (old : Nat)]) ?_ (at_end _ _) ?_)).trans ?_
    · rw [List.getElem?_append_left (by simp)]
      exact at_end _ _
    · simp only [List.length_map, List.length_cons, List.length_nil, List.length_append]
      omega
    · simp
  generalize hS7 : S6 ++ [(first :: (m ++ [last])).map D.int, [.int (old : Nat)], (first :: (m ++ [last, (old : Int)])).map D.int] = S7 at eN
  have x7 : Ext2 S6 S7 := hS7 ▸ Ext2.app _ _
  have R7 := R6.ext x7
  have P7 : Pool N S7 := hS7 ▸ P6.app _
  have o7 : S7[S6.length + 2]? = some ((first :: (m ++ [last, (old : Int)])).map D.int) := by rw [← hS7]; simp
  have n7 : S6.length + 2 ∉ lo :: rs.set old (S4.length + 2) := fun z => by have := n6 _ z; omega
  have R8 := R7.push n7 (by omega) o7
  rw [expr_ok (app_ok2 (i := 0) rfl eN R7.at0 (by rw [List.length_map, List.length_set]; omega))]
  refine ⟨_, _, m, r, rfl, hp, R8.congr fun i hi => ?_, by simp [hl], P7.set R7.lo2 _⟩
  rw [List.length_append, List.length_set, hl] at hi
  simp only [List.length_singleton] at hi
  unfold updX YD partY
  rw [List.length_set, hl]
  by_cases c1 : i = n
  · rw [if_pos c1, if_pos c1]
  · rw [if_neg c1, if_neg c1]
    by_cases c2 : i = old
    · rw [if_pos c2, if_pos c2]
    · rw [if_neg c2, if_neg c2]
end LawM
end
section
set_option Elab.async false
set_option linter.all false
set_option maxRecDepth 100000
set_option maxHeartbeats 2000000
/-! L5: grown, and told. -/
namespace LawM
open PySem PySem.Spec PyProof.Rows L2 MP
theorem tkP {F : List D → Sto → Res D} (hF : TakeOk F) {n : Nat} {S : Sto} {ρ : MP.Env} {e : Ev} {m : Nat} (P : Pool n S) (h0 : ρ[0]? = some (some (.lst 1))) (he : e ρ S = .ok (.int (m : Int)) S) (hm : 0 < m) (hm2 : m < 2 ^ 60) (hn : n < 2 ^ 60) :
    ∃ (r : Nat) (S' : Sto), eCall 2 F (aCons (eVar 0) (aCons e aNil)) ρ S = .ok (.int (r : Int)) S' ∧ r < m ∧ Pool (n + 1) S' ∧ Ext2 S S' := by
  obtain ⟨C, P, R, rfl, h⟩ := P
  obtain ⟨r, C', P', e1, e2, e3⟩ := hF C P n m R h hm hm2 hn
  refine ⟨r, C' :: P' :: R, by rw [call2 (var_ok h0) he, e1], e2, ⟨C', P', R, rfl, e3⟩, ⟨by simp, fun i h2 hi => ?_⟩⟩
  match i, h2 with
  | i + 2, _ => rfl
theorem Rows.len_ev {S : Sto} {lo : Nat} {rs : List Nat} {X : Nat → List D} (R : Rows S lo rs X) {i : Nat} {ρ : MP.Env} (h : ρ[i]? = some (some (.lst lo))) : eL dLen (aCons (eVar i) aNil) ρ S = .ok (.int (rs.length : Nat)) S := (MP.len_ev h R.at0).trans (by rw [List.length_map])
theorem getD_ne {c : List Int} (nd : c.Nodup) {i j : Nat} (hi : i < c.length) (hj : j < c.length) (h : i ≠ j) : c.getD i 0 ≠ c.getD j 0 := fun e => by
  have := congrArg (fun x => c.idxOf x) e
  simp only [idx_getD nd hi, idx_getD nd hj] at this
  exact h this
theorem grow_ok {S : Sto} {lo : Nat} {rs : List Nat} {Y : Nat → List Int} {n N c : Nat} (R : Rows S lo rs (YD Y)) (hl : rs.length = n) (h : Sym n Y) (h1 : 1 ≤ n) (hn : n + c ≤ 90) (P : Pool N S) (hN : N < 2 ^ 40) :
    ∃ S' rs' Y' n', rf__law_grow [.lst 1, .lst lo, .int (c : Nat)] S = .ok (.lst lo) S' ∧ Rows S' lo rs' (YD Y') ∧ rs'.length = n' ∧ Sym n' Y' ∧ 1 ≤ n' ∧ n' ≤ n + c ∧ Pool (N + 4 * c) S' := by
  unfold rf__law_grow runDef ev__law_grow
  rw [show begins 8 [D.lst 1, .lst lo, .int (c : Nat)] = [some (.lst 1), some (.lst lo), some (.int (c : Nat)), none, none, none, none, none] from rfl]
  obtain ⟨ρ', S', e1, ⟨a3, a4, a5, a6, a7, e2⟩, rs', Y', n', e3, e4, e5, e6, e7, e8⟩ := for_all (st := fun _ => True) (b := bName 3) (body := (sSeq (sAsg 4 (eCall 2 rf__law_take (aCons (eVar 0) (aCons (eL dLen (aCons (eVar 1) aNil)) aNil))))
 (sSeq (sAsg 5 (eB dIx (eVar 1) (eVar 4)))
 (sSeq (sAsg 6 (eCall 2 rf__law_take (aCons (eVar 0) (aCons (eL dLen (aCons (eVar 5) aNil)) aNil))))
 (sSeq (sAsg 7 (eB dAdd (eC (.int 1)) (eCall 2 rf__law_take (aCons (eVar 0) (aCons (eB dSub (eL dLen (aCons (eVar 5) aNil)) (eC (.int 1))) aNil)))))
 (sSeq (sIf (eTest (eB dEq (eCall 2 rf__law_take (aCons (eVar 0) (aCons (eC (.int 4)) aNil))) (eC (.int 3))))
 (sAsg 7 (eC (.int 1)))
 sSkip)
 (sExpr (eCall 4 rf__law_part (aCons (eVar 1) (aCons (eVar 4) (aCons (eB dIx (eVar 5) (eVar 6)) (aCons (eB dIx (eVar 5) (eB dMod (eL dInt (aCons (eB dAdd (eVar 6) (eVar 7)) aNil)) (eL dLen (aCons (eVar 5) aNil)))) aNil)))))))))))) (fun k ρ S' => (∃ a3 a4 a5 a6 a7, ρ = [some (.lst 1), some (.lst lo), some (.int (c : Nat)), a3, a4, a5, a6, a7]) ∧ ∃ rs' Y' n', Rows S' lo rs' (YD Y') ∧ rs'.length = n' ∧ Sym n' Y' ∧ 1 ≤ n' ∧ n' ≤ n + k ∧ Pool (N + 4 * k) S') (fun _ _ _ _ => trivial) (rngL 0 c)
    [some (.lst 1), some (.lst lo), some (.int (c : Nat)), none, none, none, none, none] S (fun k x ρ S hx hI => by
      obtain ⟨⟨a3, a4, a5, a6, a7, rfl⟩, rs, Y, n1, R, hl, h, h1, hn1, P⟩ := hI
      obtain ⟨hk, rfl⟩ := rng_at hx
      refine ⟨[some (.lst 1), some (.lst lo), some (.int (c : Nat)), some (.int (k : Nat)), a4, a5, a6, a7], ?_⟩
      obtain ⟨old, S1, t1, l1, P1, x1⟩ := tkP take_is (e := eL dLen (aCons (eVar 1) aNil)) (ρ := [some (.lst 1), some (.lst lo), some (.int (c : Nat)), some (.int (k : Nat)), a4, a5, a6, a7]) (m := n1) P rfl ((R.len_ev rfl).trans (by rw [hl])) (by omega) (by omega) (by omega)
      replace R := R.ext x1
      obtain ⟨r0, g1, g2, g3⟩ := R.get (i := old) (by omega)
      have hlen := h.len old l1
      have hlen2 := row_len h l1
      have h20 := R.ge r0 (List.mem_of_getElem? g1)
      obtain ⟨b, S2, t2, l2, P2, x2⟩ := tkP take_is (e := eL dLen (aCons (eVar 5) aNil)) (ρ := [some (.lst 1), some (.lst lo), some (.int (c : Nat)), some (.int (k : Nat)), some (.int (old : Nat)), some (.lst r0), a6, a7]) (m := (Y old).length) P1 rfl ((MP.len_ev rfl g2).trans (by rw [YD_at, List.length_map])) (by omega) (by omega) (by omega)
      replace R := R.ext x2
      replace g2 := x2.at_ h20 g2
      obtain ⟨st, S3, t3, l3, P3, x3⟩ := tkP take_is (e := eB dSub (eL dLen (aCons (eVar 5) aNil)) (eC (.int 1))) (ρ := [some (.lst 1), some (.lst lo), some (.int (c : Nat)), some (.int (k : Nat)), some (.int (old : Nat)), some (.lst r0), some (.int (b : Nat)), a7]) (m := (Y old).length - 1) P2 rfl ((sub_ok (MP.len_ev rfl g2) c_ok).trans (by
        rw [YD_at, List.length_map, show (((Y old).length : Nat) : Int) - 1 = (((Y old).length - 1 : Nat) : Int) by omega])) (by omega) (by omega) (by omega)
      replace R := R.ext x3
      replace g2 := x3.at_ h20 g2
      obtain ⟨q, S4, t4, l4, P4, x4⟩ := tkP take_is (e := eC (.int 4)) (ρ := [some (.lst 1), some (.lst lo), some (.int (c : Nat)), some (.int (k : Nat)), some (.int (old : Nat)), some (.lst r0), some (.int (b : Nat)), some (.int (1 + st : Int))]) (m := 4) P3 rfl c_ok (by omega) (by omega) (by omega)
      replace R := R.ext x4
      replace g2 := x4.at_ h20 g2
      have i5 : ∃ s5 : Nat, 1 ≤ s5 ∧ s5 < (Y old).length ∧ sIf (eTest (eB dEq (eCall 2 rf__law_take (aCons (eVar 0) (aCons (eC (.int 4)) aNil))) (eC (.int 3)))) (sAsg 7 (eC (.int 1))) sSkip [some (.lst 1), some (.lst lo), some (.int (c : Nat)), some (.int (k : Nat)), some (.int (old : Nat)), some (.lst r0), some (.int (b : Nat)), some (.int (1 + st : Int))] S3 = .next [some (.lst 1), some (.lst lo), some (.int (c : Nat)), some (.int (k : Nat)), some (.int (old : Nat)), some (.lst r0), some (.int (b : Nat)), some (.int (s5 : Nat))] S4 := by
        have t5 := test_ok (eq_ok t4 (c_ok (d := .int 3)))
        by_cases hq : (q : Int) = 3
        · rw [decide_eq_true hq] at t5
          refine ⟨1, by omega, by omega, (if_t t5).trans (ret_asg c_ok)⟩
        · rw [decide_eq_false hq] at t5
          exact ⟨1 + st, by omega, by omega, (if_s t5).trans (by rw [show ((1 + st : Nat) : Int) = 1 + (st : Int) by omega])⟩
      obtain ⟨s5, u1, u2, i5⟩ := i5
      have hb2 : (b + s5) % (Y old).length < (Y old).length := Nat.mod_lt _ (by omega)
      have hbne : b ≠ (b + s5) % (Y old).length := fun z => by
        rcases Nat.lt_or_ge (b + s5) (Y old).length with w | w
        · rw [Nat.mod_eq_of_lt w] at z
          omega
        · rw [Nat.mod_eq_sub_mod w, Nat.mod_eq_of_lt (by omega)] at z
          omega
      obtain ⟨S5, rs5, m, r, p1, p2, p3, p4, p5⟩ := part_ok R hl h l1 (getD_mem l2) (getD_mem hb2) (getD_ne (h.nd old l1) l2 hb2 hbne) (by omega) P4
      have e6 : eB dIx (eVar 5) (eVar 6) [some (.lst 1), some (.lst lo), some (.int (c : Nat)), some (.int (k : Nat)), some (.int (old : Nat)), some (.lst r0), some (.int (b : Nat)), some (.int (s5 : Nat))] S4 = .ok (.int ((Y old).getD b 0)) S4 := b_ok (var_ok rfl) (var_ok rfl) (ix_lst g2 (int_at' l2))
      have e7 : eB dIx (eVar 5) (eB dMod (eL dInt (aCons (eB dAdd (eVar 6) (eVar 7)) aNil)) (eL dLen (aCons (eVar 5) aNil))) [some (.lst 1), some (.lst lo), some (.int (c : Nat)), some (.int (k : Nat)), some (.int (old : Nat)), some (.lst r0), some (.int (b : Nat)), some (.int (s5 : Nat))] S4 = .ok (.int ((Y old).getD ((b + s5) % (Y old).length) 0)) S4 :=
        b_ok (var_ok rfl) (mod_ok (x := b + s5) (y := (Y old).length) (int1 (add_ok (x := (b : Int)) (y := (s5 : Int)) (var_ok rfl) (var_ok rfl))) ((MP.len_ev rfl g2).trans (by rw [YD_at, List.length_map])) (by omega)) (ix_lst g2 (int_at' hb2))
      have e8 := (call4 (F := rf__law_part) (var_ok (i := 1) (d := .lst lo) rfl) (var_ok (i := 4) (d := .int (old : Nat)) rfl) e6 e7).trans p1
      refine ⟨[some (.lst 1), some (.lst lo), some (.int (c : Nat)), some (.int (k : Nat)), some (.int (old : Nat)), some (.lst r0), some (.int (b : Nat)), some (.int (s5 : Nat))], S5, rfl, ?_, ⟨_, _, _, _, _, rfl⟩, rs5, _, n1 + 1, p3, p4, part_sym h l1 p2, by omega, by omega, p5.mono (by omega)⟩
      rw [seq_next (ret_asg t1)]
      simp only [List.set_cons_zero, List.set_cons_succ]
      rw [seq_next (ret_asg (b_ok (var_ok rfl) (var_ok rfl) g3))]
      simp only [List.set_cons_zero, List.set_cons_succ]
      rw [seq_next (ret_asg t2)]
      simp only [List.set_cons_zero, List.set_cons_succ]
      rw [seq_next (ret_asg (add_ok c_ok t3))]
      simp only [List.set_cons_zero, List.set_cons_succ]
      rw [seq_next i5, expr_ok e8]) ⟨⟨_, _, _, _, _, rfl⟩, rs, Y, n, R, hl, h, h1, by omega, P⟩
  subst e2
  rw [rngL_length] at e7 e8
  rw [seq_next (for_rng (n := c) (args1 (var_ok rfl)) (by omega) e1), ret_ret (var_ok rfl)]
  exact ⟨S', rs', Y', n', rfl, e3, e4, e5, e6, e7, e8⟩
/-! told -/
def toldC (c : List Int) : List Int := rot c (c.idxOf (minI c))
def toldS (n : Nat) (Y : Nat → List Int) : Sheet := (List.range n).map fun i => toldC (Y i)
theorem minI_mem {c : List Int} (h : c ≠ []) : minI c ∈ c := by
  match c, h with
  | x :: c, _ => exact (minI_spec x c).1
theorem told_ok {S : Sto} {lo : Nat} {rs : List Nat} {Y : Nat → List Int} {n : Nat} (R : Rows S lo rs (YD Y)) (hl : rs.length = n) (h : ∀ i, i < n → Y i ≠ [] ∧ (Y i).length ≤ 1000) (hn : n ≤ 1000) : ∃ G, rf__law_told [.lst lo] S = .ok (dsh (toldS n Y)) (S ++ G) := by
  unfold rf__law_told runDef ev__law_told
  rw [show begins 4 [D.lst lo] = [some (.lst lo), none, none, none] from rfl]
  rw [seq_next (ret_asg (show eLst aNil _ S = .ok (.lst S.length) (S ++ [[]]) from by simp [eLst, eL, aNil, dLst_ok]))]
  simp only [List.set_cons_zero, List.set_cons_succ]
  have hlo := R.lt (r := lo) (by simp)
  obtain ⟨ρ', S', e1, ⟨a2, a3, e2⟩, G, e3⟩ := for_all (st := fun S' => S'[lo]? = some (rs.map D.lst)) (b := bName 2) (body := (sSeq (sAsg 3 (eIdx (eVar 2) (eL dMin (aCons (eVar 2) aNil))))
 (sExpr (eMt mAppend (eVar 1) (aCons (eL dTupOf (aCons (eB dAdd (eSl (eVar 2) (some (eVar 3)) none) (eSl (eVar 2) none (some (eVar 3)))) aNil)) aNil))))) (fun k ρ S' => (∃ a2 a3, ρ = [some (.lst lo), some (.lst S.length), a2, a3]) ∧ ∃ G, S' = S ++ [((List.range k).map fun i => di (toldC (Y i)))] ++ G) (fun i ρ S' hI => by
      obtain ⟨_, G, rfl⟩ := hI
      rw [List.append_assoc, List.getElem?_append_left hlo]
      exact R.at0) (rs.map D.lst) [some (.lst lo), some (.lst S.length), none, none] (S ++ [[]]) (fun k x ρ S' hx hI => by
      obtain ⟨⟨a2, a3, rfl⟩, G, rfl⟩ := hI
      rw [List.getElem?_map] at hx
      cases hr : rs[k]? with
      | none => rw [hr] at hx; cases hx
      | some r =>
        rw [hr] at hx
        cases hx
        have hk := (List.getElem?_eq_some_iff.mp hr).1
        obtain ⟨y1, y2⟩ := h k (by omega)
        have hm := minI_mem y1
        have hi := idx_lt hm
        have hrS : ∀ G, (S ++ G)[r]? = some ((Y k).map D.int) := fun G => by
          rw [List.getElem?_append_left (R.lt (List.mem_cons_of_mem _ (List.mem_of_getElem? hr)))]
          exact R.at_ k r hr
        refine ⟨[some (.lst lo), some (.lst S.length), some (.lst r), a3], ?_⟩
        generalize hA : (List.range k).map (fun i => di (toldC (Y i))) = A
        have hAl : A.length = k := by rw [← hA]; simp
        have h0 : (S ++ [A] ++ G)[r]? = some ((Y k).map D.int) := by rw [List.append_assoc]; exact hrS _
        have e4 : eL dMin (aCons (eVar 2) aNil) [some (.lst lo), some (.lst S.length), some (.lst r), a3] (S ++ [A] ++ G) = .ok (.int (minI (Y k))) (S ++ [A] ++ G) := by
          unfold eL
          rw [args1 (var_ok rfl), Res.bind_ok]
          unfold dMin itemsOf
          simp only [h0, Option.bind_some, intsOf_ints]
          match Y k, y1 with
          | x :: c, _ => rfl
        have e5 := ret_asg (i := 3) (idxL_ok (var_ok (i := 2) (d := .lst r) rfl) e4 h0 (intsOf_ints _) hm)
        have e6 : eB dAdd (eSl (eVar 2) (some (eVar 3)) none) (eSl (eVar 2) none (some (eVar 3))) [some (.lst lo), some (.lst S.length), some (.lst r), some (.int ((Y k).idxOf (minI (Y k)) : Nat))] (S ++ [A] ++ G) = .ok (.lst ((S ++ [A] ++ G).length + 2)) (S ++ [A] ++ (G ++ [((Y k).drop ((Y k).idxOf (minI (Y k)))).map D.int, ((Y k).take ((Y k).idxOf (minI (Y k)))).map D.int, (toldC (Y k)).map D.int])) := by
          have a1 := sl_hi (i := 2) (l := r) (k := (Y k).idxOf (minI (Y k))) (ρ := [some (.lst lo), some (.lst S.length), some (.lst r), some (.int ((Y k).idxOf (minI (Y k)) : Nat))]) (S := S ++ [A] ++ G) (e := eVar 3) rfl h0 (var_ok rfl) (by rw [List.length_map]; omega)
          have a2 := sl_lo (i := 2) (l := r) (k := (Y k).idxOf (minI (Y k))) (ρ := [some (.lst lo), some (.lst S.length), some (.lst r), some (.int ((Y k).idxOf (minI (Y k)) : Nat))]) (S := S ++ [A] ++ G ++ [((Y k).map D.int).drop ((Y k).idxOf (minI (Y k)))]) (e := eVar 3) rfl (by rw [List.getElem?_append_left (List.getElem?_eq_some_iff.mp h0).1]; exact h0) (var_ok rfl)
          refine (b_ok a1 a2 (add_lst (xs := ((Y k).map D.int).drop ((Y k).idxOf (minI (Y k)))) (ys := ((Y k).map D.int).take ((Y k).idxOf (minI (Y k)))) ?_ (at_end _ _) ?_)).trans ?_
          · rw [List.getElem?_append_left (by simp)]
            exact at_end _ _
          · simp only [List.length_drop, List.length_take, List.length_map]
            omega
          · unfold toldC rot
            simp [List.map_drop, List.map_take]
            omega
        have e7 := tup_of e6 (xs := (toldC (Y k)).map D.int) (by
          rw [← List.append_assoc, List.getElem?_append_right (by omega), Nat.add_sub_cancel_left]
          rfl)
        have e8 := app_ok2 (i := 1) (l := S.length) (xs := A) rfl e7 (by rw [List.append_assoc, List.getElem?_append_right (by omega), Nat.sub_self]; rfl) (by omega)
        refine ⟨[some (.lst lo), some (.lst S.length), some (.lst r), some (.int ((Y k).idxOf (minI (Y k)) : Nat))], _, rfl, ?_, ⟨_, _, rfl⟩, G ++ [((Y k).drop ((Y k).idxOf (minI (Y k)))).map D.int, ((Y k).take ((Y k).idxOf (minI (Y k)))).map D.int, (toldC (Y k)).map D.int], rfl⟩
        rw [seq_next e5]
        simp only [List.set_cons_zero, List.set_cons_succ]
        rw [expr_ok e8]
        congr 1
        rw [List.set_append_left _ _ (by simp), set_last, List.range_succ, List.map_append, hA]
        rfl) ⟨⟨_, _, rfl⟩, [], by simp⟩
  subst e2 e3
  rw [seq_next (for_lst (l := lo) (xs := rs.map D.lst) (var_ok rfl) (by rw [List.getElem?_append_left hlo]; exact R.at0) e1)]
  have e9 := tup_ev (i := 1) (l := S.length) (ρ := [some (.lst lo), some (.lst S.length), a2, a3]) (S := S ++ [((List.range (rs.map D.lst).length).map fun i => di (toldC (Y i)))] ++ G) (xs := ((List.range (rs.map D.lst).length).map fun i => di (toldC (Y i)))) rfl (by rw [List.append_assoc, List.getElem?_append_right (by omega), Nat.sub_self]; rfl)
  rw [ret_ret e9]
  refine ⟨[((List.range (rs.map D.lst).length).map fun i => di (toldC (Y i)))] ++ G, ?_⟩
  rw [← List.append_assoc]
  unfold toldS dsh
  rw [List.map_map, List.length_map, hl]
  rfl
end LawM
end
section
set_option Elab.async false
set_option linter.all false
set_option maxRecDepth 100000
set_option maxHeartbeats 2000000
/-! L6: the starts. -/
namespace LawM
open PySem PySem.Spec PyProof.Rows L2 MP
def RowsL (S : Sto) (lo : Nat) (rs : List Nat) (sh : Sheet) : Prop := Rows S lo rs (YD fun i => sh.getD i []) ∧ rs.length = sh.length
def LitI (a : EvA) (c : List Int) (ρ : MP.Env) : Prop := ∀ S, a ρ S = .ok (c.map D.int) S
def LitR (a : EvA) (sh : Sheet) (ρ : MP.Env) : Prop := ∀ S : Sto, a ρ S = .ok ((List.range' S.length sh.length).map D.lst) (S ++ sh.map fun c => c.map D.int)
theorem litI_nil {ρ : MP.Env} : LitI aNil [] ρ := fun S => rfl
theorem litI_pos {ρ : MP.Env} {a : EvA} {c : List Int} {x : Int} (h : LitI a c ρ) : LitI (aCons (eC (.int x)) a) (x :: c) ρ := fun S => by
  unfold aCons
  rw [c_ok, Res.bind_ok, h S]
  rfl
theorem litI_neg {ρ : MP.Env} {a : EvA} {c : List Int} {x : Int} (h : LitI a c ρ) : LitI (aCons (eU dNeg (eC (.int x))) a) (-x :: c) ρ := fun S => by
  unfold aCons
  rw [neg_ok c_ok, Res.bind_ok, h S]
  rfl
theorem litI_var {ρ : MP.Env} {a : EvA} {c : List Int} {x : Int} {i : Nat} (e : ρ[i]? = some (some (.int x))) (h : LitI a c ρ) : LitI (aCons (eVar i) a) (x :: c) ρ := fun S => by
  unfold aCons
  rw [var_ok e, Res.bind_ok, h S]
  rfl
theorem litR_nil {ρ : MP.Env} : LitR aNil [] ρ := fun S => by
  simp [aNil]
theorem litR_cons {ρ : MP.Env} {a b : EvA} {c : List Int} {sh : Sheet} (h : LitI a c ρ) (h2 : LitR b sh ρ) (hc : c.length ≤ 1000) : LitR (aCons (eLst a) b) (c :: sh) ρ := fun S => by
  have e : eLst a ρ S = .ok (.lst S.length) (S ++ [c.map D.int]) := by
    unfold eLst eL
    rw [h S, Res.bind_ok, dLst_ok (by rw [List.length_map]; exact hc), lift_some]
  unfold aCons
  rw [e, Res.bind_ok, h2]
  simp [List.range'_succ]
theorem lit_ok {ρ : MP.Env} {a : EvA} {sh : Sheet} (h : LitR a sh ρ) {S : Sto} (hS : 2 ≤ S.length) (hl : sh.length ≤ 1000) : ∃ S' lo rs G, eLst a ρ S = .ok (.lst lo) S' ∧ RowsL S' lo rs sh ∧ S' = S ++ G ∧ ∀ r ∈ lo :: rs, S.length ≤ r := by
  refine ⟨_, (S ++ sh.map fun c => c.map D.int).length, List.range' S.length sh.length, (sh.map fun c => c.map D.int) ++ [(List.range' S.length sh.length).map D.lst], ?_, ⟨⟨?_, ?_, ?_, ?_, ?_⟩, ?_⟩, rfl, ?_⟩
  · unfold eLst eL
    rw [h S, Res.bind_ok, dLst_ok (by simp; exact hl), lift_some, List.append_assoc]
  · simp
    omega
  · rw [← List.append_assoc]
    exact at_end _ _
  · rw [List.nodup_cons]
    refine ⟨fun z => ?_, List.nodup_range'⟩
    rw [List.mem_range'_1] at z
    simp at z
  · intro r hr
    rw [List.mem_range'_1] at hr
    omega
  · intro i r e
    have hi := (List.getElem?_eq_some_iff.mp e).1
    rw [List.length_range'] at hi
    rw [List.getElem?_range' hi] at e
    have er : r = S.length + i := by
      have := Option.some.inj e
      omega
    rw [er, List.getElem?_append_right (by omega), Nat.add_sub_cancel_left, List.getElem?_append_left (by rw [List.length_map]; exact hi), List.getElem?_map, List.getElem?_eq_getElem hi]
    unfold YD
    simp only [List.getD_eq_getElem?_getD, List.getElem?_eq_getElem hi]
    rfl
  · rw [List.length_range']
  · intro r hr
    rcases List.mem_cons.mp hr with rfl | hr
    · simp
    · rw [List.mem_range'_1] at hr
      exact hr.1
theorem cat_ok {S : Sto} {lo lo2 : Nat} {rs rs2 : List Nat} {sh sh2 : Sheet} {B : Nat} (h1 : RowsL S lo rs sh) (h2 : RowsL S lo2 rs2 sh2) (b1 : ∀ r ∈ lo :: rs, r < B) (b2 : ∀ r ∈ lo2 :: rs2, B ≤ r) (hl : sh.length + sh2.length ≤ 1000) :
    dAdd (.lst lo) (.lst lo2) S = some (.lst S.length, S ++ [(rs ++ rs2).map D.lst]) ∧ RowsL (S ++ [(rs ++ rs2).map D.lst]) S.length (rs ++ rs2) (sh ++ sh2) := by
  obtain ⟨R1, l1⟩ := h1
  obtain ⟨R2, l2⟩ := h2
  have m1 : ∀ r ∈ rs, r < S.length := fun r hr => R1.lt (List.mem_cons_of_mem _ hr)
  have m2 : ∀ r ∈ rs2, r < S.length := fun r hr => R2.lt (List.mem_cons_of_mem _ hr)
  refine ⟨?_, ⟨?_, ?_, ?_, ?_, ?_⟩, ?_⟩
  · rw [add_lst R1.at0 R2.at0 (by rw [List.length_map, List.length_map]; omega), List.map_append]
  · have := R1.lo2
    have := R1.lt (r := lo) (by simp)
    omega
  · exact at_end _ _
  · rw [List.nodup_cons]
    refine ⟨fun z => ?_, ?_⟩
    · rcases List.mem_append.mp z with z | z
      · have := m1 _ z; omega
      · have := m2 _ z; omega
    · rw [List.nodup_append]
      exact ⟨(List.nodup_cons.mp R1.nd).2, (List.nodup_cons.mp R2.nd).2, fun a ha b hb z => by
        have := b1 a (List.mem_cons_of_mem _ ha)
        have := b2 b (List.mem_cons_of_mem _ hb)
        omega⟩
  · intro r hr
    rcases List.mem_append.mp hr with z | z
    · exact R1.ge r z
    · exact R2.ge r z
  · intro i r e
    unfold YD
    rcases Nat.lt_or_ge i rs.length with q | q
    · rw [List.getElem?_append_left q] at e
      rw [List.getElem?_append_left (m1 r (List.mem_of_getElem? e)), R1.at_ i r e]
      unfold YD
      simp only [List.getD_eq_getElem?_getD]
      rw [List.getElem?_append_left (by omega)]
    · rw [List.getElem?_append_right q] at e
      rw [List.getElem?_append_left (m2 r (List.mem_of_getElem? e)), R2.at_ _ r e]
      unfold YD
      simp only [List.getD_eq_getElem?_getD]
      rw [List.getElem?_append_right (by omega), l1]
  · rw [List.length_append, List.length_append, l1, l2]
theorem RowsL.ext {S S' : Sto} {lo : Nat} {rs : List Nat} {sh : Sheet} (h : RowsL S lo rs sh) (e : Ext2 S S') : RowsL S' lo rs sh := ⟨h.1.ext e, h.2⟩
def symB (sh : Sheet) : Bool := decide (∀ i, i < sh.length → 3 ≤ (sh.getD i []).length ∧ (sh.getD i []).Nodup ∧ (i : Int) ∉ sh.getD i [] ∧ ∀ j ∈ sh.getD i [], -4 ≤ j ∧ j < sh.length ∧ (0 ≤ j → (i : Int) ∈ sh.getD j.toNat []))
theorem symB_ok {sh : Sheet} (h : symB sh = true) : Sym sh.length fun i => sh.getD i [] := by
  have h := of_decide_eq_true h
  exact ⟨fun i hi => (h i hi).1, fun i hi => (h i hi).2.1, fun i hi => (h i hi).2.2.1, fun i hi j hj => ((h i hi).2.2.2 j hj).1, fun i hi j hj => ((h i hi).2.2.2 j hj).2.1, fun i hi j hj => ((h i hi).2.2.2 j hj).2.2⟩
def Begun (N : Nat) (r : Res D) : Prop := ∃ S' lo rs sh, r = .ok (.lst lo) S' ∧ RowsL S' lo rs sh ∧ symB sh = true ∧ (1 ≤ sh.length ∧ sh.length ≤ 6) ∧ Pool N S'
theorem pool_len {N : Nat} {S : Sto} (P : Pool N S) : 2 ≤ S.length := by
  obtain ⟨C, P, R, rfl, _⟩ := P
  simp
/-- a start that is one literal -/
theorem beg1 {N : Nat} {S : Sto} {ρ : MP.Env} {a : EvA} (sh : Sheet) (P : Pool N S) (h : LitR a sh ρ) (hs : symB sh = true) (hl : 1 ≤ sh.length ∧ sh.length ≤ 6) : Begun N (flowRes (sRet (eLst a) ρ S)) := by
  obtain ⟨S', lo, rs, G, e, R, rfl, _⟩ := lit_ok h (pool_len P) (by omega)
  rw [ret_ret e]
  exact ⟨_, lo, rs, sh, rfl, R, hs, hl, P.app G⟩
/-- rows that stand, with more of them -/
theorem beg2 {N : Nat} {S : Sto} {ρ : MP.Env} {a : EvA} {i lo : Nat} {rs : List Nat} {sh : Sheet} (sh2 : Sheet) (P : Pool N S) (hi : ρ[i]? = some (some (.lst lo))) (R : RowsL S lo rs sh) (h : LitR a sh2 ρ) (hs : symB (sh ++ sh2) = true) (hl : 1 ≤ (sh ++ sh2).length ∧ (sh ++ sh2).length ≤ 6) : Begun N (flowRes (sRet (eB dAdd (eVar i) (eLst a)) ρ S)) := by
  rw [List.length_append] at hl
  obtain ⟨S', lo2, rs2, G, e, R2, rfl, b2⟩ := lit_ok h (pool_len P) (by omega)
  obtain ⟨c1, c2⟩ := cat_ok (R.ext (Ext2.app S G)) R2 (fun r hr => R.1.lt hr) b2 (by omega)
  rw [ret_ret (b_ok (var_ok hi) e c1)]
  exact ⟨_, _, _, _, rfl, c2, hs, by rw [List.length_append]; exact hl, (P.app G).app _⟩
theorem beg0 {N : Nat} {S : Sto} {ρ : MP.Env} {i lo : Nat} {rs : List Nat} {sh : Sheet} (P : Pool N S) (hi : ρ[i]? = some (some (.lst lo))) (R : RowsL S lo rs sh) (hs : symB sh = true) (hl : 1 ≤ sh.length ∧ sh.length ≤ 6) : Begun N (flowRes (sRet (eVar i) ρ S)) := by
  rw [ret_ret (var_ok hi)]
  exact ⟨_, _, _, _, rfl, R, hs, hl, P⟩
theorem Begun.mono {N M : Nat} {r : Res D} (h : Begun N r) (k : N ≤ M) : Begun M r := by
  obtain ⟨S', lo, rs, sh, a, b, c, d, e⟩ := h
  exact ⟨S', lo, rs, sh, a, b, c, d, e.mono k⟩
theorem st_ret {a b : Es} {ρ : MP.Env} {S : Sto} {N : Nat} (h : Begun N (flowRes (a ρ S))) : Begun N (flowRes (sSeq a b ρ S)) := by
  obtain ⟨S', lo, rs, sh, e, h2⟩ := h
  refine ⟨S', lo, rs, sh, ?_, h2⟩
  unfold sSeq
  cases q : a ρ S with
  | ret d S'' => rw [q] at e; exact e
  | next ρ' S'' => rw [q] at e; cases e
  | exc => rw [q] at e; cases e
  | brk => rw [q] at e; cases e
  | cont => rw [q] at e; cases e
  | stuck => rw [q] at e; cases e
theorem st_if {t : EvB} {a : Es} {ρ : MP.Env} {S : Sto} {N : Nat} (ht : t ρ S = .ok true S) (h : Begun N (flowRes (a ρ S))) : Begun N (flowRes (sIf t a sSkip ρ S)) := by
  rw [if_t ht]
  exact h
theorem start_ok {N : Nat} {S : Sto} (P : Pool N S) (hN : N < 2 ^ 40) : Begun (N + 2) (rf__law_start [.lst 1] S) := by
  unfold rf__law_start runDef ev__law_start
  rw [show begins 6 [D.lst 1] = [some (.lst 1), none, none, none, none, none] from rfl]
  obtain ⟨r, S1, t1, l1, P1, x1⟩ := tkP take_is (e := eC (.int 24)) (ρ := [some (.lst 1), none, none, none, none, none]) (m := 24) P rfl c_ok (by omega) (by omega) (by omega)
  rw [seq_next (ret_asg t1)]
  simp only [List.set_cons_zero, List.set_cons_succ]
  obtain ⟨S2, lo, rs, G, e2, R, hG, _⟩ := lit_ok (ρ := [some (.lst 1), some (.int (r : Nat)), none, none, none, none]) (a := aCons (eLst (aCons (eU dNeg (eC (.int 4))) (aCons (eU dNeg (eC (.int 3))) (aCons (eU dNeg (eC (.int 2))) (aCons (eU dNeg (eC (.int 1))) aNil))))) aNil) (sh := [[-4, -3, -2, -1]]) (by repeat' first | exact litR_nil | exact litI_nil | (refine litR_cons ?_ ?_ (by first | decide | simp)) | refine litI_neg ?_ | refine litI_pos ?_ | refine litI_var rfl ?_) (S := S1) (pool_len P1) (by decide)
  have P2 : Pool (N + 1) S2 := hG ▸ P1.app G
  rw [seq_next (ret_asg e2)]
  simp only [List.set_cons_zero, List.set_cons_succ]
  have te : ∀ (k : Int) (S : Sto), eTest (eB dEq (eVar 1) (eC (.int k))) [some (.lst 1), some (.int (r : Nat)), some (.lst lo), none, none, none] S = .ok (decide ((r : Int) = k)) S := fun k S => test_ok (eq_ok (var_ok rfl) c_ok)
  clear e2 t1 hG x1
  by_cases c16 : (r : Int) = 16
  · have ht := te 16 S2
    rw [decide_eq_true c16] at ht
    refine st_ret (st_if ht ?_)
    exact Begun.mono (beg2 [[-4, -3, -2, -1]] P2 rfl R (by repeat' first | exact litR_nil | exact litI_nil | (refine litR_cons ?_ ?_ (by first | decide | simp)) | refine litI_neg ?_ | refine litI_pos ?_ | refine litI_var rfl ?_) (by decide +kernel) (by decide)) (by omega)
  have h16 := te 16 S2
  rw [decide_eq_false c16] at h16
  rw [if_no h16 rfl]
  by_cases c17 : (r : Int) = 17 ∨ (r : Int) = 18
  · have ht := or_b (te 17 S2) (te 18 S2)
    rw [show (decide ((r : Int) = 17) || decide ((r : Int) = 18)) = true from by rw [← Bool.decide_or]; exact decide_eq_true c17] at ht
    refine st_ret (st_if ht ?_)
    exact Begun.mono (beg2 [[2, 3, 4], [1, 4, 3], [1, 2, 4], [1, 3, 2]] P2 rfl R (by repeat' first | exact litR_nil | exact litI_nil | (refine litR_cons ?_ ?_ (by first | decide | simp)) | refine litI_neg ?_ | refine litI_pos ?_ | refine litI_var rfl ?_) (by decide +kernel) (by decide)) (by omega)
  have h17 := or_b (te 17 S2) (te 18 S2)
  rw [show (decide ((r : Int) = 17) || decide ((r : Int) = 18)) = false from by rw [← Bool.decide_or]; exact decide_eq_false c17] at h17
  rw [if_no h17 rfl]
  by_cases c19 : (r : Int) = 19 ∨ (r : Int) = 20
  · have ht := or_b (te 19 S2) (te 20 S2)
    rw [show (decide ((r : Int) = 19) || decide ((r : Int) = 20)) = true from by rw [← Bool.decide_or]; exact decide_eq_true c19] at ht
    refine st_ret (st_if ht ?_)
    obtain ⟨q, S3, t3, l3, P3, x3⟩ := tkP take_is (e := eC (.int 4)) (ρ := [some (.lst 1), some (.int (r : Nat)), some (.lst lo), none, none, none]) (m := 4) P2 rfl c_ok (by omega) (by omega) (by omega)
    rw [seq_next (ret_asg (sub_ok t3 c_ok))]
    simp only [List.set_cons_zero, List.set_cons_succ]
    have hb : symB ([[-4, -3, -2, -1]] ++ [[(q : Int) - 4, 2, 3], [(q : Int) - 4, 3, 1], [(q : Int) - 4, 1, 2]]) = true := by
      match q, l3 with
      | 0, _ => decide +kernel
      | 1, _ => decide +kernel
      | 2, _ => decide +kernel
      | 3, _ => decide +kernel
    exact Begun.mono (beg2 [[(q : Int) - 4, 2, 3], [(q : Int) - 4, 3, 1], [(q : Int) - 4, 1, 2]] P3 rfl (R.ext x3) (by repeat' first | exact litR_nil | exact litI_nil | (refine litR_cons ?_ ?_ (by first | decide | simp)) | refine litI_neg ?_ | refine litI_pos ?_ | refine litI_var rfl ?_) hb ⟨by simp, by simp⟩) (by omega)
  have h19 := or_b (te 19 S2) (te 20 S2)
  rw [show (decide ((r : Int) = 19) || decide ((r : Int) = 20)) = false from by rw [← Bool.decide_or]; exact decide_eq_false c19] at h19
  rw [if_no h19 rfl]
  by_cases c21 : (r : Int) = 21 ∨ (r : Int) = 22
  · have ht := or_b (te 21 S2) (te 22 S2)
    rw [show (decide ((r : Int) = 21) || decide ((r : Int) = 22)) = true from by rw [← Bool.decide_or]; exact decide_eq_true c21] at ht
    refine st_ret (st_if ht ?_)
    obtain ⟨S3, lo3, rs3, G3, e3, R3, hG3, _⟩ := lit_ok (ρ := [some (.lst 1), some (.int (r : Nat)), some (.lst lo), none, none, none]) (a := _) (sh := [[-4, 1, 4, 2, 3, -3, -2, -1], [-4, 3, 2, -3, 4, 0], [-4, -3, 1, 3, 0, 4]]) (show LitR (aCons (eLst (aCons (eU dNeg (eC (.int 4))) (aCons (eC (.int 1)) (aCons (eC (.int 4)) (aCons (eC (.int 2)) (aCons (eC (.int 3)) (aCons (eU dNeg (eC (.int 3))) (aCons (eU dNeg (eC (.int 2))) (aCons (eU dNeg (eC (.int 1))) aNil))))))))) (aCons (eLst (aCons (eU dNeg (eC (.int 4))) (aCons (eC (.int 3)) (aCons (eC (.int 2)) (aCons (eU dNeg (eC (.int 3))) (aCons (eC (.int 4)) (aCons (eC (.int 0)) aNil))))))) (aCons (eLst (aCons (eU dNeg (eC (.int 4))) (aCons (eU dNeg (eC (.int 3))) (aCons (eC (.int 1)) (aCons (eC (.int 3)) (aCons (eC (.int 0)) (aCons (eC (.int 4)) aNil))))))) aNil))) _ _ from by repeat' first | exact litR_nil | exact litI_nil | (refine litR_cons ?_ ?_ (by first | decide | simp)) | refine litI_neg ?_ | refine litI_pos ?_ | refine litI_var rfl ?_) (S := S2) (pool_len P2) (by decide)
    have P3 : Pool (N + 1) S3 := hG3 ▸ P2.app G3
    rw [seq_next (ret_asg e3)]
    simp only [List.set_cons_zero, List.set_cons_succ]
    exact Begun.mono (beg2 [[-4, 4, -3, 0, 2, 1], [-4, 2, 0, 1, -3, 3]] P3 rfl R3 (by repeat' first | exact litR_nil | exact litI_nil | (refine litR_cons ?_ ?_ (by first | decide | simp)) | refine litI_neg ?_ | refine litI_pos ?_ | refine litI_var rfl ?_) (by decide +kernel) (by decide)) (by omega)
  have h21 := or_b (te 21 S2) (te 22 S2)
  rw [show (decide ((r : Int) = 21) || decide ((r : Int) = 22)) = false from by rw [← Bool.decide_or]; exact decide_eq_false c21] at h21
  rw [if_no h21 rfl]
  by_cases c23 : (r : Int) = 23
  · have ht := te 23 S2
    rw [decide_eq_true c23] at ht
    refine st_ret (st_if ht ?_)
    refine Begun.mono (beg1 [[1, 2, 3], [0, 3, 2], [0, 1, 3], [0, 2, 1]] P2 (by repeat' first | exact litR_nil | exact litI_nil | (refine litR_cons ?_ ?_ (by first | decide | simp)) | refine litI_neg ?_ | refine litI_pos ?_ | refine litI_var rfl ?_) (by decide +kernel) (by decide)) (by omega)
  have h23 := te 23 S2
  rw [decide_eq_false c23] at h23
  rw [if_no h23 rfl]
  by_cases c12 : (r : Int) = 12
  · have ht := te 12 S2
    rw [decide_eq_true c12] at ht
    refine st_ret (st_if ht ?_)
    refine Begun.mono (beg1 [[-4, -3, 1, 2, 3], [-3, -2, 2, 0], [-2, -1, 3, 0, 1], [-4, 0, 2, -1]] P2 (by repeat' first | exact litR_nil | exact litI_nil | (refine litR_cons ?_ ?_ (by first | decide | simp)) | refine litI_neg ?_ | refine litI_pos ?_ | refine litI_var rfl ?_) (by decide +kernel) (by decide)) (by omega)
  have h12 := te 12 S2
  rw [decide_eq_false c12] at h12
  rw [if_no h12 rfl]
  by_cases c13 : (r : Int) = 13
  · have ht := te 13 S2
    rw [decide_eq_true c13] at ht
    refine st_ret (st_if ht ?_)
    obtain ⟨S3, lo3, rs3, G3, e3, R3, hG3, _⟩ := lit_ok (ρ := [some (.lst 1), some (.int (r : Nat)), some (.lst lo), none, none, none]) (a := _) (sh := [[-4, -3, 1, 4, 3], [-3, -2, 2, 4, 0], [-2, -1, 3, 4, 1], [-4, 0, 4, 2, -1]]) (show LitR (aCons (eLst (aCons (eU dNeg (eC (.int 4))) (aCons (eU dNeg (eC (.int 3))) (aCons (eC (.int 1)) (aCons (eC (.int 4)) (aCons (eC (.int 3)) aNil)))))) (aCons (eLst (aCons (eU dNeg (eC (.int 3))) (aCons (eU dNeg (eC (.int 2))) (aCons (eC (.int 2)) (aCons (eC (.int 4)) (aCons (eC (.int 0)) aNil)))))) (aCons (eLst (aCons (eU dNeg (eC (.int 2))) (aCons (eU dNeg (eC (.int 1))) (aCons (eC (.int 3)) (aCons (eC (.int 4)) (aCons (eC (.int 1)) aNil)))))) (aCons (eLst (aCons (eU dNeg (eC (.int 4))) (aCons (eC (.int 0)) (aCons (eC (.int 4)) (aCons (eC (.int 2)) (aCons (eU dNeg (eC (.int 1))) aNil)))))) aNil)))) _ _ from by repeat' first | exact litR_nil | exact litI_nil | (refine litR_cons ?_ ?_ (by first | decide | simp)) | refine litI_neg ?_ | refine litI_pos ?_ | refine litI_var rfl ?_) (S := S2) (pool_len P2) (by decide)
    have P3 : Pool (N + 1) S3 := hG3 ▸ P2.app G3
    rw [seq_next (ret_asg e3)]
    simp only [List.set_cons_zero, List.set_cons_succ]
    exact Begun.mono (beg2 [[0, 1, 2, 3]] P3 rfl R3 (by repeat' first | exact litR_nil | exact litI_nil | (refine litR_cons ?_ ?_ (by first | decide | simp)) | refine litI_neg ?_ | refine litI_pos ?_ | refine litI_var rfl ?_) (by decide +kernel) (by decide)) (by omega)
  have h13 := te 13 S2
  rw [decide_eq_false c13] at h13
  rw [if_no h13 rfl]
  by_cases c14 : (r : Int) = 14
  · have ht := te 14 S2
    rw [decide_eq_true c14] at ht
    refine st_ret (st_if ht ?_)
    refine Begun.mono (beg1 [[-4, -3, -2, 4, 3, 2], [-4, 2, 3, 4, -2, -1], [-4, 0, 3, 1], [0, 4, 1, 2], [-2, 1, 3, 0]] P2 (by repeat' first | exact litR_nil | exact litI_nil | (refine litR_cons ?_ ?_ (by first | decide | simp)) | refine litI_neg ?_ | refine litI_pos ?_ | refine litI_var rfl ?_) (by decide +kernel) (by decide)) (by omega)
  have h14 := te 14 S2
  rw [decide_eq_false c14] at h14
  rw [if_no h14 rfl]
  by_cases c15 : (r : Int) = 15
  · have ht := te 15 S2
    rw [decide_eq_true c15] at ht
    refine st_ret (st_if ht ?_)
    refine Begun.mono (beg1 [[-4, 1, -3, -2, -1], [-4, -3, 0]] P2 (by repeat' first | exact litR_nil | exact litI_nil | (refine litR_cons ?_ ?_ (by first | decide | simp)) | refine litI_neg ?_ | refine litI_pos ?_ | refine litI_var rfl ?_) (by decide +kernel) (by decide)) (by omega)
  have h15 := te 15 S2
  rw [decide_eq_false c15] at h15
  rw [if_no h15 rfl]
  exact Begun.mono (beg0 P2 rfl R (by decide +kernel) (by decide)) (by omega)
end LawM
end
section
set_option Elab.async false
set_option linter.all false
set_option maxRecDepth 100000
set_option maxHeartbeats 2000000
/-! L7: changed a little. -/
namespace LawM
open PySem PySem.Spec PyProof.Rows L2 MP
def GoodRow (row : List D) : Prop := row.length ≤ 1000 ∧ row.all pln = true
structure QR (S : Sto) (lo : Nat) (rs : List Nat) : Prop where
  lo2 : 2 ≤ lo
  at0 : S[lo]? = some (rs.map D.lst)
  no : lo ∉ rs
  ge : ∀ r ∈ rs, 2 ≤ r
  ok : ∀ r ∈ rs, ∃ row, S[r]? = some row ∧ GoodRow row
theorem QR.ext {S S' : Sto} {lo : Nat} {rs : List Nat} (h : QR S lo rs) (e : Ext2 S S') : QR S' lo rs := ⟨h.lo2, e.at_ h.lo2 h.at0, h.no, h.ge, fun r hr => by
  obtain ⟨row, a, b⟩ := h.ok r hr
  exact ⟨row, e.at_ (h.ge r hr) a, b⟩⟩
theorem QR.setRow {S : Sto} {lo : Nat} {rs : List Nat} (h : QR S lo rs) {r : Nat} (hr : r ∈ rs) {ys : List D} (g : GoodRow ys) : QR (S.set r ys) lo rs := ⟨h.lo2, by
  rw [List.getElem?_set_ne (show r ≠ lo from fun z => h.no (z ▸ hr))]
  exact h.at0, h.no, h.ge, fun q hq => by
  obtain ⟨row, a, b⟩ := h.ok q hq
  by_cases c : r = q
  · subst c
    exact ⟨ys, List.getElem?_set_self (List.getElem?_eq_some_iff.mp a).1, g⟩
  · exact ⟨row, by rw [List.getElem?_set_ne c]; exact a, b⟩⟩
theorem QR.setRef {S : Sto} {lo : Nat} {rs : List Nat} (h : QR S lo rs) {i r : Nat} (hr : r ≠ lo) (h2 : 2 ≤ r) {ys : List D} (e : S[r]? = some ys) (g : GoodRow ys) : QR (S.set lo ((rs.set i r).map D.lst)) lo (rs.set i r) := by
  have mem : ∀ q, q ∈ rs.set i r → q = r ∨ q ∈ rs := fun q hm => by
    rcases List.mem_or_eq_of_mem_set hm with z | z
    · exact .inr z
    · exact .inl z
  refine ⟨h.lo2, List.getElem?_set_self (List.getElem?_eq_some_iff.mp h.at0).1, fun z => ?_, fun q hq => ?_, fun q hq => ?_⟩
  · rcases mem _ z with w | w
    · exact hr w.symm
    · exact h.no w
  · rcases mem _ hq with w | w
    · rw [w]
      exact h2
    · exact h.ge q w
  · have hql : lo ≠ q := fun z => by
      rcases mem _ hq with w | w
      · exact hr (by rw [← w, z])
      · exact h.no (z ▸ w)
    rw [List.getElem?_set_ne hql]
    rcases mem _ hq with w | w
    · rw [w]
      exact ⟨ys, e, g⟩
    · exact h.ok q w
theorem vp_tup {xs : List D} (h1 : xs.length ≤ 100) (h2 : ∀ d ∈ xs, VC d = true) : VP (.tup xs) = true := by
  show (decide (xs.length ≤ 100) && xs.all VC) = true
  rw [decide_eq_true h1, Bool.true_and, List.all_eq_true]
  exact h2
theorem vc_row {ys : List D} (g : GoodRow ys) : VC (.tup ys) = true := by
  show (decide (ys.length ≤ 1000) && ys.all pln) = true
  rw [decide_eq_true g.1, Bool.true_and]
  exact g.2
theorem good_ints {c : List Int} (h : c.length ≤ 1000) : GoodRow (c.map D.int) := ⟨by rw [List.length_map]; exact h, by
  rw [List.all_eq_true]
  intro d hd
  obtain ⟨x, _, rfl⟩ := List.mem_map.mp hd
  rfl⟩
theorem vc_di {c : List Int} (h : c.length ≤ 1000) : VC (di c) = true := vc_row (good_ints h)
theorem good_sub {xs ys : List D} (h : GoodRow xs) (h1 : ys.length ≤ xs.length) (h2 : ∀ d ∈ ys, d ∈ xs) : GoodRow ys := ⟨Nat.le_trans h1 h.1, by
  rw [List.all_eq_true]
  exact fun d hd => List.all_eq_true.mp h.2 d (h2 d hd)⟩
/-- one of a list that is laid -/
theorem one_of {n : Nat} {S : Sto} {ρ : MP.Env} {a : EvA} {xs : List D} {m : Nat} {G : Sto} (ha : a ρ S = .ok xs (S ++ G)) (hx : xs.length = m) {k : Int} (hk : k = (m : Int)) (hm : 0 < m) (hm2 : m ≤ 1000) (P : Pool n S) (h0 : ρ[0]? = some (some (.lst 1))) (hn : n < 2 ^ 60) :
    ∃ d S', eB dIx (eLst a) (eCall 2 rf__law_take (aCons (eVar 0) (aCons (eC (.int k)) aNil))) ρ S = .ok d S' ∧ d ∈ xs ∧ Pool (n + 1) S' ∧ Ext2 S S' := by
  subst hk
  have e1 : eLst a ρ S = .ok (.lst (S ++ G).length) (S ++ G ++ [xs]) := by
    unfold eLst eL
    rw [ha, Res.bind_ok, dLst_ok (by omega), lift_some]
  obtain ⟨r, S', t, l, P', x⟩ := tkP take_is (e := eC (.int (m : Int))) (ρ := ρ) (m := m) ((P.app G).app [xs]) h0 c_ok hm (by omega) hn
  have hr : r < xs.length := by omega
  have e2 := x.at_ (by have := pool_len P; simp; omega) (at_end (S ++ G) xs)
  exact ⟨xs[r], S', b_ok e1 t (ix_lst e2 (List.getElem?_eq_getElem hr)), List.getElem_mem hr, P', ((Ext2.app S G).trans (Ext2.app _ _)).trans x⟩
theorem odd_ok {N n : Nat} {S : Sto} (P : Pool N S) (hN : N < 2 ^ 50) (hn : n ≤ 1000) : ∃ d S', rf__law_odd [.lst 1, .int (n : Nat)] S = .ok d S' ∧ pln d = true ∧ Pool (N + 2) S' ∧ Ext2 S S' := by
  unfold rf__law_odd runDef ev__law_odd
  rw [show begins 2 [D.lst 1, .int (n : Nat)] = [some (.lst 1), some (.int (n : Nat))] from rfl]
  obtain ⟨q, S1, t1, l1, P1, x1⟩ := tkP take_is (e := eC (.int 3)) (ρ := [some (.lst 1), some (.int (n : Nat))]) (m := 3) P rfl c_ok (by omega) (by omega) (by omega)
  have tt := test_ok (lt_ok t1 (c_ok (d := .int 2)))
  by_cases hq : (q : Int) < 2
  · rw [decide_eq_true hq] at tt
    obtain ⟨r, S2, t2, l2, P2, x2⟩ := tkP take_is (e := eB dAdd (eVar 1) (eC (.int 6))) (ρ := [some (.lst 1), some (.int (n : Nat))]) (m := n + 6) P1 rfl (add_ok (x := (n : Int)) (y := 6) (var_ok rfl) c_ok) (by omega) (by omega) (by omega)
    rw [seq_ret ((if_t tt).trans (ret_ret (sub_ok t2 c_ok)))]
    exact ⟨_, _, rfl, rfl, P2, x1.trans x2⟩
  · rw [decide_eq_false hq] at tt
    rw [if_no tt rfl]
    obtain ⟨d, S2, e, hd, P2, x2⟩ := one_of (m := 8) (G := []) (a := (aCons (eC (.bl true)) (aCons (eC (.bl false)) (aCons (eC .non) (aCons (eC (.str "N")) (aCons (eU dNeg (eC (.int 4))) (aCons (eTup aNil) (aCons (eTup (aCons (eC (.int 0)) aNil)) (aCons (eB dPow (eC (.int 10)) (eC (.int 30))) aNil)))))))))
      (xs := [.bl true, .bl false, .non, .str "N", .int (-4), .tup [], .tup [.int 0], .int (10 ^ 30)]) (ρ := [some (.lst 1), some (.int (n : Nat))]) (S := S1) (by
        have p := fun S => pw_ok (ρ := [some (.lst 1), some (.int (n : Nat))]) (S := S) (k := 30) (by decide) (rfl : (10 : Int) ^ 30 = 10 ^ 30)
        simp only [Int.cast_ofNat_Int] at p
        simp [aCons, aNil, eC, eU, eL, eTup, dNeg, dTup_ok] at p ⊢
        simp [p]) rfl (k := 8) rfl (by decide) (by decide) P1 rfl (by omega)
    rw [ret_ret e]
    refine ⟨d, S2, rfl, ?_, P2, x1.trans x2⟩
    simp at hd
    rcases hd with rfl | rfl | rfl | rfl | rfl | rfl | rfl | rfl <;> rfl
/-- a change of few -/
theorem all_of_mem {xs : List D} (h : xs.all pln = true) {d : D} (hd : d ∈ xs) : pln d = true := List.all_eq_true.mp h d hd
theorem end_few {S : Sto} {lo : Nat} {rs : List Nat} (Q : QR S lo rs) (hl : rs.length ≤ 100) {a2 a3 a5 a6 a7 a8 : Option D} {a4 : Option D} : ∃ v G, eL dTupOf (aCons (eLc (iSeq (eVar 1)) (bName 4) tTrue (eL dTupOf (aCons (eVar 4) aNil)) [4]) aNil) [some (.lst 1), some (.lst lo), a2, a3, a4, a5, a6, a7, a8] S = .ok v (S ++ G) ∧ VP v = true := by
  have key := lc_map (st := fun S' => S'[lo]? = some (rs.map D.lst)) (b := bName 4) (t := tTrue) (e := eL dTupOf (aCons (eVar 4) aNil)) (ρ := [some (.lst 1), some (.lst lo), a2, a3, none, a5, a6, a7, a8]) (fun d => match d with
    | .lst r => .tup ((S[r]?).getD [])
    | _ => .non) (S := S) Q.at0 (rs.map D.lst) [] (by simp; omega) (fun x hx => by
      obtain ⟨r, hr, rfl⟩ := List.mem_map.mp hx
      obtain ⟨row, e, g⟩ := Q.ok r hr
      refine ⟨_, rfl, rfl, ?_⟩
      simp only [e, Option.getD_some]
      exact tup_ev rfl e)
  rw [List.nil_append] at key
  have e1 := lc_lst (vs := [4]) (ρ := [some (.lst 1), some (.lst lo), a2, a3, a4, a5, a6, a7, a8]) (var_ok (i := 1) (d := .lst lo) rfl) Q.at0 key
  refine ⟨_, _, tup_of e1 (at_end _ _), vp_tup (by simp; exact hl) fun d hd => ?_⟩
  obtain ⟨x, hx, rfl⟩ := List.mem_map.mp hd
  obtain ⟨r, hr, rfl⟩ := List.mem_map.mp hx
  obtain ⟨row, e, g⟩ := Q.ok r hr
  simp only [e, Option.getD_some]
  exact vc_row g
def Keep (B : Nat) (S S' : Sto) : Prop := ∀ i, 2 ≤ i → i < B → S'[i]? = S[i]?
theorem Keep.of {B : Nat} {S S' : Sto} (x : Ext2 S S') (h : B ≤ S.length) : Keep B S S' := fun i a b => x.keep i a (Nat.lt_of_lt_of_le b h)
theorem Keep.trans {B : Nat} {S S' S'' : Sto} (h : Keep B S S') (k : Keep B S' S'') : Keep B S S'' := fun i a b => (k i a b).trans (h i a b)
theorem Keep.set {B l : Nat} {S S' : Sto} {xs : List D} (h : Keep B S S') (hl : B ≤ l) : Keep B S (S'.set l xs) := fun i a b => by
  rw [List.getElem?_set_ne (show l ≠ i by omega)]
  exact h i a b
theorem Keep.app {B : Nat} {S S' : Sto} (h : Keep B S S') (hl : B ≤ S'.length) (G : Sto) : Keep B S (S' ++ G) := h.trans (Keep.of (Ext2.app S' G) hl)
def FewOk (N B : Nat) (S0 : Sto) (r : Res D) : Prop := ∃ v S', r = .ok v S' ∧ VP v = true ∧ Pool N S' ∧ Keep B S0 S'
theorem few_fin {N B : Nat} {S0 S S' : Sto} {lo : Nat} {rs : List Nat} {a : Es} {a2 a3 a4 a5 a6 a7 a8 b2 b3 b4 b5 b6 b7 b8 : Option D} (ha : a [some (.lst 1), some (.lst lo), a2, a3, a4, a5, a6, a7, a8] S = .next [some (.lst 1), some (.lst lo), b2, b3, b4, b5, b6, b7, b8] S') (Q : QR S' lo rs) (hl : rs.length ≤ 100) (P : Pool N S') (K : Keep B S0 S') (hB : B ≤ S'.length) :
    FewOk N B S0 (flowRes (sSeq a (sRet (eL dTupOf (aCons (eLc (iSeq (eVar 1)) (bName 4) tTrue (eL dTupOf (aCons (eVar 4) aNil)) [4]) aNil))) [some (.lst 1), some (.lst lo), a2, a3, a4, a5, a6, a7, a8] S)) := by
  obtain ⟨v, G, e, hv⟩ := end_few Q hl (a2 := b2) (a3 := b3) (a4 := b4) (a5 := b5) (a6 := b6) (a7 := b7) (a8 := b8)
  rw [seq_next ha, ret_ret e]
  exact ⟨v, _, rfl, hv, P.app G, K.app hB G⟩
end LawM
end
section
set_option Elab.async false
set_option linter.all false
set_option maxRecDepth 100000
set_option maxHeartbeats 2000000
/-! L8: changed a little: each way. -/
namespace LawM
open PySem PySem.Spec PyProof.Rows L2 MP
def GoodN (B : Nat) (ys : List D) : Prop := ys.length ≤ B ∧ ∀ d ∈ ys, pln d = true
theorem GoodN.row {B : Nat} {ys : List D} (h : GoodN B ys) (hB : B ≤ 1000) : GoodRow ys := ⟨Nat.le_trans h.1 hB, List.all_eq_true.mpr h.2⟩
def Lx (e : Ev) (ρ : MP.Env) (S : Sto) (B m : Nat) : Prop := ∃ ys S' l, e ρ S = .ok (.lst l) S' ∧ S'[l]? = some ys ∧ GoodN B ys ∧ 2 ≤ l ∧ S.length ≤ l ∧ Ext2 S S' ∧ Pool m S'
theorem Lx.add {a b : Ev} {ρ : MP.Env} {S : Sto} {A B n m : Nat} (h1 : Lx a ρ S A n) (h2 : ∀ S', Ext2 S S' → Pool n S' → Lx b ρ S' B m) (hl : A + B ≤ 1000) : Lx (eB dAdd a b) ρ S (A + B) m := by
  obtain ⟨xs, S1, l1, e1, t1, g1, q1, q1', x1, p1⟩ := h1
  obtain ⟨ys, S2, l2, e2, t2, g2, q2, q2', x2, p2⟩ := h2 S1 x1 p1
  have t1' := x2.at_ q1 t1
  refine ⟨xs ++ ys, _, _, b_ok e1 e2 (add_lst t1' t2 (by have := g1.1; have := g2.1; omega)), at_end _ _, ⟨by rw [List.length_append]; exact Nat.add_le_add g1.1 g2.1, fun d hd => ?_⟩, Nat.le_trans q2 (Nat.le_of_lt (List.getElem?_eq_some_iff.mp t2).1), Nat.le_trans x1.len x2.len, (x1.trans x2).trans (Ext2.app _ _), p2.app _⟩
  rcases List.mem_append.mp hd with h | h
  · exact g1.2 d h
  · exact g2.2 d h
section
variable {i r k B n : Nat} {ρ : MP.Env} {S : Sto} {xs : List D} {e : Ev}
theorem Lx.lo (h : ρ[i]? = some (some (.lst r))) (hr : S[r]? = some xs) (g : GoodN B xs) (he : e ρ S = .ok (.int (k : Nat)) S) (P : Pool n S) : Lx (eSl (eVar i) none (some e)) ρ S B n :=
  ⟨xs.take k, _, _, sl_lo h hr he, at_end _ _, ⟨Nat.le_trans (by simp; omega) g.1, fun d hd => g.2 d (List.mem_of_mem_take hd)⟩, pool_len P, Nat.le_refl _, Ext2.app _ _, P.app _⟩
theorem Lx.hi (h : ρ[i]? = some (some (.lst r))) (hr : S[r]? = some xs) (g : GoodN B xs) (he : e ρ S = .ok (.int (k : Nat)) S) (hk : k ≤ xs.length) (P : Pool n S) : Lx (eSl (eVar i) (some e) none) ρ S B n :=
  ⟨xs.drop k, _, _, sl_hi h hr he hk, at_end _ _, ⟨Nat.le_trans (by simp) g.1, fun d hd => g.2 d (List.mem_of_mem_drop hd)⟩, pool_len P, Nat.le_refl _, Ext2.app _ _, P.app _⟩
theorem Lx.one {d : D} {S1 : Sto} (he : e ρ S = .ok d S1) (hd : pln d = true) (x : Ext2 S S1) (P : Pool n S1) : Lx (eLst (aCons e aNil)) ρ S 1 n := by
  have e1 : eLst (aCons e aNil) ρ S = .ok (.lst S1.length) (S1 ++ [[d]]) := by
    unfold eLst eL
    rw [args1 he, Res.bind_ok, dLst_ok (by simp : [d].length ≤ 1000), lift_some]
  exact ⟨[d], _, _, e1, at_end _ _, ⟨Nat.le_refl _, fun x hx => by simp at hx; rw [hx]; exact hd⟩, pool_len P, x.len, x.trans (Ext2.app _ _), P.app _⟩
theorem Lx.back (h : ρ[i]? = some (some (.lst r))) (hr : S[r]? = some xs) (g : GoodN B xs) (P : Pool n S) : Lx (eU dBack (eVar i)) ρ S B n := by
  have e1 : eU dBack (eVar i) ρ S = .ok (.lst S.length) (S ++ [(xs.drop 1).reverse]) := u_ok (var_ok h) (by unfold dBack; simp only [hr, Option.map_some])
  exact ⟨_, _, _, e1, at_end _ _, ⟨Nat.le_trans (by simp) g.1, fun d hd => g.2 d (List.mem_of_mem_drop (List.mem_reverse.mp hd))⟩, pool_len P, Nat.le_refl _, Ext2.app _ _, P.app _⟩
end
theorem set_outer {S : Sto} {lo i : Nat} {rs : List Nat} {e : Ev} {ρ : MP.Env} {B m : Nat} (Q : QR S lo rs) (hi : i < rs.length) (h : Lx e ρ S B m) (hB : B ≤ 1000) (h1 : ρ[1]? = some (some (.lst lo))) (h3 : ρ[3]? = some (some (.int (i : Nat)))) :
    ∃ S' rs', sSub gSet (eVar 1) (eVar 3) e ρ S = .next ρ S' ∧ QR S' lo rs' ∧ rs'.length = rs.length ∧ Pool m S' ∧ (∀ C, C ≤ lo → C ≤ S.length → Keep C S S') ∧ S.length ≤ S'.length := by
  obtain ⟨ys, S1, l, e1, t1, g, q, q', x, p⟩ := h
  have Q1 := Q.ext x
  have hlo : l ≠ lo := fun z => by
    have := (List.getElem?_eq_some_iff.mp Q.at0).1
    omega
  refine ⟨_, rs.set i l, sub_next (g := gSet) e1 (var_ok h1) (var_ok h3) (set_lst (k := i) Q1.at0 (by rw [List.length_map]; exact hi)), ?_, List.length_set, p.set Q.lo2 _, fun C h1 h2 => (Keep.of x h2).set h1, by rw [List.length_set]; exact x.len⟩
  rw [← List.map_set]
  exact Q1.setRef hlo q t1 (g.row hB)
theorem GoodN.set {B k : Nat} {xs : List D} {d : D} (g : GoodN B xs) (hd : pln d = true) : GoodN B (xs.set k d) := ⟨by rw [List.length_set]; exact g.1, fun x hx => by
  rcases List.mem_or_eq_of_mem_set hx with z | z
  · exact g.2 x z
  · rw [z]; exact hd⟩
theorem few_ok {N lo : Nat} {S : Sto} {rs : List Nat} (Q : QR S lo rs) (h : ∀ r ∈ rs, ∃ row, S[r]? = some row ∧ 1 ≤ row.length ∧ GoodN 400 row) (h1 : 1 ≤ rs.length) (h2 : rs.length ≤ 90) (P : Pool N S) (hN : N < 2 ^ 40) (pick : Nat) {B : Nat} (hB : ∀ r ∈ lo :: rs, B ≤ r) (hBS : B ≤ S.length) : FewOk (N + 5) B S (rf__law_few [.lst 1, .lst lo, .int (pick : Nat)] S) := by
  unfold rf__law_few runDef ev__law_few
  rw [show begins 9 [D.lst 1, .lst lo, .int (pick : Nat)] = [some (.lst 1), some (.lst lo), some (.int (pick : Nat)), none, none, none, none, none, none] from rfl]
  obtain ⟨i, S1, t1, l1, P1, x1⟩ := tkP take_is (e := eL dLen (aCons (eVar 1) aNil)) (ρ := [some (.lst 1), some (.lst lo), some (.int (pick : Nat)), none, none, none, none, none, none]) (m := rs.length) P rfl ((MP.len_ev rfl Q.at0).trans (by rw [List.length_map])) (by omega) (by omega) (by omega)
  rw [seq_next (ret_asg t1)]
  simp only [List.set_cons_zero, List.set_cons_succ]
  replace Q := Q.ext x1
  have hr := List.getElem?_eq_getElem l1
  have hrm : rs[i] ∈ rs := List.getElem_mem l1
  generalize rs[i] = r0 at hr hrm
  obtain ⟨c, ce, c1, cg⟩ := h r0 hrm
  have r02 := Q.ge r0 hrm
  replace ce := x1.at_ r02 ce
  rw [seq_next (ret_asg (b_ok (var_ok rfl) (var_ok rfl) (ix_lst (k := i) (v := .lst r0) Q.at0 (by rw [List.getElem?_map, hr]; rfl))))]
  simp only [List.set_cons_zero, List.set_cons_succ]
  obtain ⟨k, S2, t2, l2, P2, x2⟩ := tkP take_is (e := eL dLen (aCons (eVar 4) aNil)) (ρ := [some (.lst 1), some (.lst lo), some (.int (pick : Nat)), some (.int (i : Nat)), some (.lst r0), none, none, none, none]) (m := c.length) P1 rfl (MP.len_ev rfl ce) (by omega) (by have := cg.1; omega) (by omega)
  rw [seq_next (ret_asg t2)]
  simp only [List.set_cons_zero, List.set_cons_succ]
  replace Q := Q.ext x2
  replace ce := x2.at_ r02 ce
  obtain ⟨j, S3, t3, l3, P3, x3⟩ := tkP take_is (e := eL dLen (aCons (eVar 4) aNil)) (ρ := [some (.lst 1), some (.lst lo), some (.int (pick : Nat)), some (.int (i : Nat)), some (.lst r0), some (.int (k : Nat)), none, none, none]) (m := c.length) P2 rfl (MP.len_ev rfl ce) (by omega) (by have := cg.1; omega) (by omega)
  rw [seq_next (ret_asg t3)]
  simp only [List.set_cons_zero, List.set_cons_succ]
  replace Q := Q.ext x3
  replace ce := x3.at_ r02 ce
  have K3 : Keep B S S3 := Keep.of ((x1.trans x2).trans x3) hBS
  have L3 : B ≤ S3.length := Nat.le_trans hBS ((x1.trans x2).trans x3).len
  have hBl : B ≤ lo := hB lo (by simp)
  have hBr : B ≤ r0 := hB r0 (by simp [hrm])
  clear t1 t2 t3 P P1 P2 x1 x2 x3 h
  have te : ∀ (n : Int) (S : Sto), eTest (eB dEq (eVar 2) (eC (.int n))) [some (.lst 1), some (.lst lo), some (.int (pick : Nat)), some (.int (i : Nat)), some (.lst r0), some (.int (k : Nat)), some (.int (j : Nat)), none, none] S = .ok (decide (((pick : Nat) : Int) = n)) S := fun n S => test_ok (eq_ok (var_ok rfl) c_ok)
  have k1 : ∀ S, eB dAdd (eVar 5) (eC (.int 1)) [some (.lst 1), some (.lst lo), some (.int (pick : Nat)), some (.int (i : Nat)), some (.lst r0), some (.int (k : Nat)), some (.int (j : Nat)), none, none] S = .ok (.int ((k + 1 : Nat) : Int)) S := fun S => add_ok (x := (k : Int)) (y := 1) (var_ok rfl) c_ok
  by_cases p0 : ((pick : Nat) : Int) = 0
  · have ht := te 0 S3
    rw [decide_eq_true p0] at ht
    obtain ⟨S', rs', e, Q', hl', P', K', L'⟩ := set_outer (ρ := [some (.lst 1), some (.lst lo), some (.int (pick : Nat)), some (.int (i : Nat)), some (.lst r0), some (.int (k : Nat)), some (.int (j : Nat)), none, none]) Q l1 (Lx.add (Lx.lo (i := 4) (e := eVar 5) rfl ce cg (var_ok rfl) P3) (fun S' x p => Lx.hi (i := 4) rfl (x.at_ r02 ce) cg (k1 S') (by omega) p) (by decide)) (by decide) rfl rfl
    exact few_fin ((if_t ht).trans e) Q' (by omega) (P'.mono (by omega)) (K3.trans (K' B hBl L3)) (by omega)
  by_cases p1 : ((pick : Nat) : Int) = 1
  · have h0 := te 0 S3
    have ht := te 1 S3
    rw [decide_eq_false p0] at h0
    rw [decide_eq_true p1] at ht
    obtain ⟨S', rs', e, Q', hl', P', K', L'⟩ := set_outer (m := N + 5) (ρ := [some (.lst 1), some (.lst lo), some (.int (pick : Nat)), some (.int (i : Nat)), some (.lst r0), some (.int (k : Nat)), some (.int (j : Nat)), none, none]) Q l1 (Lx.add (Lx.add (Lx.lo (i := 4) rfl ce cg (k1 S3) P3) (fun S' x p => by
      obtain ⟨d, S4, e4, pd, P4, x4⟩ := odd_ok (n := rs.length) p (by omega) (by omega)
      exact Lx.one (e := eCall 2 rf__law_odd (aCons (eVar 0) (aCons (eL dLen (aCons (eVar 1) aNil)) aNil))) ((call2 (var_ok rfl) ((MP.len_ev rfl (Q.ext x).at0).trans (by rw [List.length_map]))).trans e4) pd x4 P4) (by decide)) (fun S' x p => Lx.hi (i := 4) rfl (x.at_ r02 ce) cg (k1 S') (by omega) p) (by decide)) (by decide) rfl rfl
    exact few_fin ((if_f h0).trans ((if_t ht).trans e)) Q' (by omega) (P'.mono (by omega)) (K3.trans (K' B hBl L3)) (by omega)
  by_cases p2 : ((pick : Nat) : Int) = 2
  · have h0 := te 0 S3
    have h1 := te 1 S3
    have ht := te 2 S3
    rw [decide_eq_false p0] at h0
    rw [decide_eq_false p1] at h1
    rw [decide_eq_true p2] at ht
    have ck := List.getElem?_eq_getElem l2
    have cj := List.getElem?_eq_getElem l3
    have gk := cg.2 _ (List.getElem_mem l2)
    have gj := cg.2 _ (List.getElem_mem l3)
    generalize c[k] = dk at ck gk
    generalize c[j] = dj at cj gj
    have g1 : GoodN 400 (c.set k dj) := cg.set gj
    have g2 : GoodN 400 ((c.set k dj).set j dk) := g1.set gk
    have Q1 := Q.setRow hrm (g1.row (by decide))
    have e1 : (S3.set r0 (c.set k dj))[r0]? = some (c.set k dj) := List.getElem?_set_self (List.getElem?_eq_some_iff.mp ce).1
    have Q2 := Q1.setRow hrm (g2.row (by decide))
    refine few_fin ((if_f h0).trans ((if_f h1).trans ((if_t ht).trans ?_))) Q2 (by omega) (((P3.set r02 _).set r02 _).mono (by omega)) ((K3.set hBr).set hBr) (by simp; exact L3) (b7 := some dk) (b8 := none) (b2 := some (.int (pick : Nat))) (b3 := some (.int (i : Nat))) (b4 := some (.lst r0)) (b5 := some (.int (k : Nat))) (b6 := some (.int (j : Nat)))
    rw [seq_next (ret_asg (b_ok (var_ok rfl) (var_ok rfl) (ix_lst ce ck)))]
    simp only [List.set_cons_zero, List.set_cons_succ]
    rw [seq_next (sub_next (g := gSet) (b_ok (var_ok (i := 4) (d := .lst r0) rfl) (var_ok (i := 6) (d := .int (j : Nat)) rfl) (ix_lst ce cj)) (var_ok (i := 4) (d := .lst r0) rfl) (var_ok (i := 5) (d := .int (k : Nat)) rfl) (set_lst ce l2))]
    exact sub_next (g := gSet) (var_ok (i := 7) (d := dk) rfl) (var_ok (i := 4) (d := .lst r0) rfl) (var_ok (i := 6) (d := .int (j : Nat)) rfl) (set_lst e1 (by rw [List.length_set]; exact l3))
  by_cases p3 : ((pick : Nat) : Int) = 3
  · have h0 := te 0 S3
    have h1 := te 1 S3
    have h2 := te 2 S3
    have ht := te 3 S3
    rw [decide_eq_false p0] at h0
    rw [decide_eq_false p1] at h1
    rw [decide_eq_false p2] at h2
    rw [decide_eq_true p3] at ht
    obtain ⟨d, S4, e4, pd, P4, x4⟩ := odd_ok (n := rs.length) P3 (by omega) (by omega)
    have ce4 := x4.at_ r02 ce
    have g1 : GoodN 400 (c.set k d) := cg.set pd
    exact few_fin ((if_f h0).trans ((if_f h1).trans ((if_f h2).trans ((if_t ht).trans (sub_next (g := gSet) ((call2 (F := rf__law_odd) (var_ok (i := 0) (d := .lst 1) rfl) ((MP.len_ev rfl Q.at0).trans (by rw [List.length_map]))).trans e4) (var_ok (i := 4) (d := .lst r0) rfl) (var_ok (i := 5) (d := .int (k : Nat)) rfl) (set_lst ce4 l2)))))) ((Q.ext x4).setRow hrm (g1.row (by decide))) (by omega) ((P4.set r02 _).mono (by omega)) ((K3.trans (Keep.of x4 L3)).set hBr) (by rw [List.length_set]; exact Nat.le_trans L3 x4.len)
  by_cases p4 : ((pick : Nat) : Int) = 4
  · have h0 := te 0 S3
    have h1 := te 1 S3
    have h2 := te 2 S3
    have h3 := te 3 S3
    have ht := te 4 S3
    rw [decide_eq_false p0] at h0
    rw [decide_eq_false p1] at h1
    rw [decide_eq_false p2] at h2
    rw [decide_eq_false p3] at h3
    rw [decide_eq_true p4] at ht
    obtain ⟨S', rs', e, Q', hl', P', K', L'⟩ := set_outer (ρ := [some (.lst 1), some (.lst lo), some (.int (pick : Nat)), some (.int (i : Nat)), some (.lst r0), some (.int (k : Nat)), some (.int (j : Nat)), none, none]) Q l1 (Lx.add (Lx.hi (i := 4) (e := eVar 5) rfl ce cg (var_ok rfl) (by omega) P3) (fun S' x p => Lx.lo (i := 4) (e := eVar 5) rfl (x.at_ r02 ce) cg (var_ok rfl) p) (by decide)) (by decide) rfl rfl
    exact few_fin ((if_f h0).trans ((if_f h1).trans ((if_f h2).trans ((if_f h3).trans ((if_t ht).trans e))))) Q' (by omega) (P'.mono (by omega)) (K3.trans (K' B hBl L3)) (by omega)
  by_cases p5 : ((pick : Nat) : Int) = 5
  · have h0 := te 0 S3
    have h1 := te 1 S3
    have h2 := te 2 S3
    have h3 := te 3 S3
    have h4 := te 4 S3
    have ht := te 5 S3
    rw [decide_eq_false p0] at h0
    rw [decide_eq_false p1] at h1
    rw [decide_eq_false p2] at h2
    rw [decide_eq_false p3] at h3
    rw [decide_eq_false p4] at h4
    rw [decide_eq_true p5] at ht
    have c0 := List.getElem?_eq_getElem (show 0 < c.length from c1)
    have g0 := cg.2 _ (List.getElem_mem (show 0 < c.length from c1))
    obtain ⟨S', rs', e, Q', hl', P', K', L'⟩ := set_outer (ρ := [some (.lst 1), some (.lst lo), some (.int (pick : Nat)), some (.int (i : Nat)), some (.lst r0), some (.int (k : Nat)), some (.int (j : Nat)), none, none]) Q l1 (Lx.add (Lx.one (e := eB dIx (eVar 4) (eC (.int 0))) (b_ok (var_ok rfl) c_ok (ix_lst (k := 0) ce c0)) g0 (Ext2.refl _) P3) (fun S' x p => Lx.back (i := 4) rfl (x.at_ r02 ce) cg p) (by decide)) (by decide) rfl rfl
    exact few_fin ((if_f h0).trans ((if_f h1).trans ((if_f h2).trans ((if_f h3).trans ((if_f h4).trans ((if_t ht).trans e)))))) Q' (by omega) (P'.mono (by omega)) (K3.trans (K' B hBl L3)) (by omega)
  · have h0 := te 0 S3
    have h1' := te 1 S3
    have h2' := te 2 S3
    have h3 := te 3 S3
    have h4 := te 4 S3
    have h5 := te 5 S3
    rw [decide_eq_false p0] at h0
    rw [decide_eq_false p1] at h1'
    rw [decide_eq_false p2] at h2'
    rw [decide_eq_false p3] at h3
    rw [decide_eq_false p4] at h4
    rw [decide_eq_false p5] at h5
    have hri : ∀ S, S[lo]? = some (rs.map D.lst) → dIx (.lst lo) (.int (i : Nat)) S = some (.lst r0, S) := fun S e => ix_lst e (by rw [List.getElem?_map, hr]; rfl)
    obtain ⟨o, S4, t4, l4, P4, x4⟩ := tkP take_is (e := eL dLen (aCons (eVar 1) aNil)) (ρ := [some (.lst 1), some (.lst lo), some (.int (pick : Nat)), some (.int (i : Nat)), some (.lst r0), some (.int (k : Nat)), some (.int (j : Nat)), some (.lst r0), none]) (m := rs.length) P3 rfl ((MP.len_ev rfl Q.at0).trans (by rw [List.length_map])) (by omega) (by omega) (by omega)
    have Q4 := Q.ext x4
    have ho := List.getElem?_eq_getElem l4
    have hom : rs[o] ∈ rs := List.getElem_mem l4
    generalize rs[o] = ro at ho hom
    obtain ⟨co, coe, cog⟩ := Q4.ok ro hom
    have nlo : ∀ r ∈ rs, r ≠ lo := fun r hr z => Q4.no (z ▸ hr)
    have Q5 := Q4.setRef (i := i) (nlo ro hom) (Q4.ge ro hom) coe cog
    have hm5 : r0 ∈ rs.set i ro ∨ True := .inr trivial
    obtain ⟨c0, c0e, c0g⟩ := Q4.ok r0 hrm
    have c0e5 : (S4.set lo ((rs.set i ro).map D.lst))[r0]? = some c0 := by
      rw [List.getElem?_set_ne (Ne.symm (nlo r0 hrm))]
      exact c0e
    have Q6 := Q5.setRef (i := o) (nlo r0 hrm) (Q4.ge r0 hrm) c0e5 c0g
    refine few_fin ((if_f h0).trans ((if_f h1').trans ((if_f h2').trans ((if_f h3).trans ((if_f h4).trans ((if_f h5).trans ?_)))))) Q6 (by rw [List.length_set, List.length_set]; omega) (((P4.set Q.lo2 _).set Q.lo2 _).mono (by omega)) (((K3.trans (Keep.of x4 L3)).set hBl).set hBl) (by rw [List.length_set, List.length_set]; exact Nat.le_trans L3 x4.len) (b7 := some (.lst r0)) (b8 := some (.int (o : Nat))) (b2 := some (.int (pick : Nat))) (b3 := some (.int (i : Nat))) (b4 := some (.lst r0)) (b5 := some (.int (k : Nat))) (b6 := some (.int (j : Nat)))
    rw [seq_next (ret_asg (b_ok (var_ok rfl) (var_ok rfl) (hri S3 Q.at0)))]
    simp only [List.set_cons_zero, List.set_cons_succ]
    rw [seq_next (ret_asg t4)]
    simp only [List.set_cons_zero, List.set_cons_succ]
    rw [seq_next (sub_next (g := gSet) (b_ok (var_ok (i := 1) (d := .lst lo) rfl) (var_ok (i := 8) (d := .int (o : Nat)) rfl) (ix_lst (v := .lst ro) Q4.at0 (by rw [List.getElem?_map, ho]; rfl))) (var_ok (i := 1) (d := .lst lo) rfl) (var_ok (i := 3) (d := .int (i : Nat)) rfl) (set_lst Q4.at0 (by rw [List.length_map]; exact l1)))]
    rw [← List.map_set]
    rw [sub_next (g := gSet) (var_ok (i := 7) (d := .lst r0) rfl) (var_ok (i := 1) (d := .lst lo) rfl) (var_ok (i := 8) (d := .int (o : Nat)) rfl) (set_lst Q5.at0 (by rw [List.length_map, List.length_set]; exact l4))]
    rw [← List.map_set]
end LawM
end
section
set_option Elab.async false
set_option linter.all false
set_option maxRecDepth 100000
set_option maxHeartbeats 2000000
/-! L9: names exchanged, and mirrored. -/
namespace LawM
open PySem PySem.Spec PyProof.Rows L2 MP
theorem if_e {t : EvB} {a b : Ev} {ρ : MP.Env} {S : Sto} {k : Bool} (h : t ρ S = .ok k S) : eIf t a b ρ S = if k = true then a ρ S else b ρ S := by
  unfold eIf
  rw [h]
  rfl
theorem lcI {a e : Ev} {v l : Nat} {ρ : MP.Env} {S0 S : Sto} {c : List Int} (f : Int → Int) (ha : a ρ S0 = .ok (.lst l) S) (hl : S[l]? = some (c.map D.int)) (hc : c.length ≤ 1000) (h : ∀ p ∈ c, e ((wipeE ρ [v]).set v (some (.int p))) S = .ok (.int (f p)) S) :
    eLc (iSeq a) (bName v) tTrue e [v] ρ S0 = .ok (.lst S.length) (S ++ [(c.map f).map D.int]) := by
  have key := lc_map (st := fun S' => S'[l]? = some (c.map D.int)) (b := bName v) (t := tTrue) (e := e) (ρ := wipeE ρ [v]) (fun d => match d with
    | .int p => .int (f p)
    | _ => .non) (S := S) hl (c.map D.int) [] (by simp; omega) (fun x hx => by
      obtain ⟨p, hp, rfl⟩ := List.mem_map.mp hx
      exact ⟨_, rfl, rfl, h p hp⟩)
  rw [List.nil_append, List.map_map] at key
  rw [lc_lst ha hl key, List.map_map]
  rfl
theorem rot_len (c : List Int) (b : Nat) : (rot c b).length = c.length := (rot_perm c b).length_eq
theorem vp_told {n : Nat} {Y : Nat → List Int} (hn : n ≤ 100) (h : ∀ i, i < n → (Y i).length ≤ 1000) : VP (dsh (toldS n Y)) = true := by
  unfold dsh toldS
  refine vp_tup (by simp; exact hn) fun d hd => ?_
  rw [List.map_map] at hd
  obtain ⟨i, hi, rfl⟩ := List.mem_map.mp hd
  exact vc_di (by unfold toldC; rw [rot_len]; exact h i (List.mem_range.mp hi))
/-- a row more, laid behind those told -/
theorem push_told {S' S1 : Sto} {tl k N v : Nat} {rs : List Nat} {Y : Nat → List Int} {e : Ev} {ρ : MP.Env} {c : List Int} (R : Rows S' tl rs (YD Y)) (hk : rs.length = k) (hk2 : k ≤ 1000) (hv : ρ[v]? = some (some (.lst tl))) (x1 : Ext2 S' S1) (he : e ρ S' = .ok (.lst S1.length) (S1 ++ [c.map D.int])) (P : Pool N S1) :
    ∃ S2 rs2, sExpr (eMt mAppend (eVar v) (aCons e aNil)) ρ S' = .next ρ S2 ∧ Rows S2 tl rs2 (YD fun i => if i = k then c else Y i) ∧ rs2.length = k + 1 ∧ Pool N S2 ∧ (∀ i, i ≠ tl → 2 ≤ i → i < S'.length → S2[i]? = S'[i]?) ∧ S'.length ≤ S2.length := by
  have R1 := (R.ext x1).ext (Ext2.app S1 [c.map D.int])
  have nf : S1.length ∉ tl :: rs := fun z => by
    have := (R.ext x1).lt z
    omega
  have R2 := R1.push nf (pool_len P) (at_end _ _)
  refine ⟨_, _, expr_ok (app_ok2 hv he R1.at0 (by rw [List.length_map]; omega)), R2.congr fun i hi => ?_, by simp [hk], (P.app _).set R.lo2 _, fun i hi h2 hl => ?_, ?_⟩
  · unfold updX YD
    rw [hk]
    by_cases q : i = k
    · simp only [q, if_true]
    · simp only [q, if_false]
  · rw [List.getElem?_set_ne (Ne.symm hi), List.getElem?_append_left (Nat.lt_of_lt_of_le hl x1.len), x1.keep i h2 hl]
  · rw [List.length_set, List.length_append]
    exact Nat.le_trans x1.len (Nat.le_add_right _ _)
theorem rows_nil {S : Sto} (h : 2 ≤ S.length) (Y : Nat → List Int) : Rows (S ++ [[]]) S.length [] (YD Y) := ⟨h, at_end _ _, by simp, fun r hr => by simp at hr, fun i r e => by simp at e⟩
theorem mirror_ok {N lo sd : Nat} {S : Sto} {rs : List Nat} {Y : Nat → List Int} {sides : List Int} (R : Rows S lo rs (YD Y)) (hn : rs.length ≤ 90) (h : ∀ i, i < rs.length → Y i ≠ [] ∧ (Y i).length ≤ 400 ∧ ∀ p ∈ Y i, -4 ≤ p) (hs : S[sd]? = some (sides.map D.int)) (hsl : sides.length = 4) (h2 : 2 ≤ sd) (P : Pool N S) :
    FewOk N S.length S (rf__law_mirror [.lst lo, .lst sd] S) := by
  unfold rf__law_mirror runDef ev__law_mirror
  rw [show begins 5 [D.lst lo, .lst sd] = [some (.lst lo), some (.lst sd), none, none, none] from rfl]
  rw [seq_next (ret_asg (show eLst aNil _ S = .ok (.lst S.length) (S ++ [[]]) from by simp [eLst, eL, aNil, dLst_ok]))]
  simp only [List.set_cons_zero, List.set_cons_succ]
  let mir : List Int → List Int := fun c => c.reverse.map fun p => if p < 0 then sides.getD (p + 4).toNat 0 else p
  have hlo := R.lt (r := lo) (by simp)
  have hsd := (List.getElem?_eq_some_iff.mp hs).1
  obtain ⟨ρ', S', e1, ⟨a3, a4, e2⟩, rs', e3, e4, e5, e6⟩ := for_all (st := fun S' => S'[lo]? = some (rs.map D.lst)) (b := bName 3) (body := (sExpr (eMt mAppend (eVar 2) (aCons (eLc (iSeq (eU dRev (eVar 3))) (bName 4) tTrue (eIf (eTest (eB dLt (eVar 4) (eC (.int 0)))) (eB dIx (eVar 1) (eB dAdd (eVar 4) (eC (.int 4)))) (eVar 4)) [4]) aNil)))) (fun k ρ S' => (∃ a3 a4, ρ = [some (.lst lo), some (.lst sd), some (.lst S.length), a3, a4]) ∧ ∃ rs', Rows S' S.length rs' (YD fun i => mir (Y i)) ∧ rs'.length = k ∧ Pool N S' ∧ Ext2 S S') (fun i ρ S' hI => by
      obtain ⟨_, _, _, _, _, x⟩ := hI
      exact x.at_ R.lo2 R.at0) (rs.map D.lst) [some (.lst lo), some (.lst sd), some (.lst S.length), none, none] (S ++ [[]]) (fun k x ρ S' hx hI => by
      obtain ⟨⟨a3, a4, rfl⟩, rs', R', hk, P', x'⟩ := hI
      rw [List.getElem?_map] at hx
      cases hr : rs[k]? with
      | none => rw [hr] at hx; cases hx
      | some r =>
        rw [hr] at hx
        cases hx
        have hkn := (List.getElem?_eq_some_iff.mp hr).1
        obtain ⟨y1, y2, y3⟩ := h k hkn
        have rr := x'.at_ (R.ge r (List.mem_of_getElem? hr)) (R.at_ k r hr)
        have rv : eU dRev (eVar 3) [some (.lst lo), some (.lst sd), some (.lst S.length), some (.lst r), a4] S' = .ok (.lst S'.length) (S' ++ [(Y k).reverse.map D.int]) := (rev_ev rfl rr).trans (by rw [YD_at, List.map_reverse])
        have sd' := (x'.trans (Ext2.app S' [(Y k).reverse.map D.int])).at_ h2 hs
        have e := lcI (v := 4) (e := (eIf (eTest (eB dLt (eVar 4) (eC (.int 0)))) (eB dIx (eVar 1) (eB dAdd (eVar 4) (eC (.int 4)))) (eVar 4))) (fun p => if p < 0 then sides.getD (p + 4).toNat 0 else p) rv (at_end _ _) (by rw [List.length_reverse]; omega) (fun p hp => by
          have hp4 := y3 p (List.mem_reverse.mp hp)
          have t1 : eTest (eB dLt (eVar 4) (eC (.int 0))) [some (.lst lo), some (.lst sd), some (.lst S.length), some (.lst r), some (.int p)] (S' ++ [(Y k).reverse.map D.int]) = .ok (decide (p < 0)) (S' ++ [(Y k).reverse.map D.int]) := test_ok (lt_ok (var_ok rfl) c_ok)
          show eIf _ _ _ [some (.lst lo), some (.lst sd), some (.lst S.length), some (.lst r), some (.int p)] _ = _
          rw [if_e t1]
          by_cases q : p < 0
          · rw [decide_eq_true q, if_pos rfl, if_pos q]
            have : (p + 4).toNat < sides.length := by omega
            exact b_ok (var_ok rfl) (add_ok (var_ok rfl) c_ok) (by
              have w := ix_lst (S := S' ++ [(Y k).reverse.map D.int]) sd' (int_at' this)
              rwa [Int.toNat_of_nonneg (by omega)] at w)
          · rw [decide_eq_false q, if_neg (by decide), if_neg q]
            exact var_ok rfl)
        obtain ⟨S2, rs2, f1, f2, f3, f4, f5, f6⟩ := push_told (v := 2) R' hk (by omega) rfl (Ext2.app S' [(Y k).reverse.map D.int]) e (P'.app _)
        refine ⟨_, _, S2, rfl, f1, ⟨_, _, rfl⟩, rs2, f2.congr fun i _ => ?_, f3, f4, ⟨Nat.le_trans x'.len f6, fun i h2' hi => ?_⟩⟩
        · unfold YD
          by_cases q : i = k
          · simp only [q, if_true]
            rfl
          · simp only [q, if_false]
        · rw [f5 i (by omega) h2' (Nat.lt_of_lt_of_le hi x'.len), x'.keep i h2' hi]) ⟨⟨_, _, rfl⟩, [], rows_nil (pool_len P) _, rfl, P.app _, Ext2.app _ _⟩
  subst e2
  rw [seq_next (for_lst (l := lo) (xs := rs.map D.lst) (var_ok rfl) ((Ext2.app S [[]]).at_ R.lo2 R.at0) e1)]
  rw [List.length_map] at e4
  have hY : ∀ i, i < rs.length → mir (Y i) ≠ [] ∧ (mir (Y i)).length ≤ 1000 := fun i hi => by
    obtain ⟨y1, y2, _⟩ := h i hi
    have hl : (mir (Y i)).length = (Y i).length := by show ((Y i).reverse.map _).length = _; rw [List.length_map, List.length_reverse]
    refine ⟨fun z => y1 (List.length_eq_zero_iff.mp (by rw [← hl, z]; rfl)), by omega⟩
  obtain ⟨G, t⟩ := told_ok e3 e4 hY (by omega)
  rw [ret_ret ((call1 (var_ok rfl)).trans t)]
  exact ⟨_, _, rfl, vp_told (by omega) fun i hi => (hY i hi).2, e5.app G, Keep.of (e6.trans (Ext2.app _ G)) (Nat.le_refl _)⟩
theorem swapped_ok {N lo i j : Nat} {S : Sto} {rs : List Nat} {Y : Nat → List Int} (R : Rows S lo rs (YD Y)) (hn : rs.length ≤ 90) (h : ∀ i, i < rs.length → Y i ≠ [] ∧ (Y i).length ≤ 400 ∧ ∀ p ∈ Y i, p < rs.length) (hi : i < rs.length) (hj : j < rs.length) (P : Pool N S) :
    FewOk N S.length S (rf__law_swapped [.lst lo, .int (i : Nat), .int (j : Nat)] S) := by
  unfold rf__law_swapped runDef ev__law_swapped
  rw [show begins 7 [D.lst lo, .int (i : Nat), .int (j : Nat)] = [some (.lst lo), some (.int (i : Nat)), some (.int (j : Nat)), none, none, none, none] from rfl]
  have hrg : (rngL 0 rs.length) = ((List.range rs.length).map fun k : Nat => (k : Int)).map D.int := by
    rw [List.map_map]
    unfold rngL
    simp
  have e0 : eU dListRg (eL dLen (aCons (eVar 0) aNil)) [some (.lst lo), some (.int (i : Nat)), some (.int (j : Nat)), none, none, none, none] S = .ok (.lst S.length) (S ++ [((List.range rs.length).map fun k : Nat => (k : Int)).map D.int]) := u_ok (R.len_ev rfl) (by
    unfold dListRg
    simp only [Int.toNat_natCast, hrg]
    rw [if_pos (by omega)])
  rw [seq_next (ret_asg e0)]
  simp only [List.set_cons_zero, List.set_cons_succ]
  have hl0 : ((List.range rs.length).map fun k : Nat => (k : Int)).length = rs.length := by simp
  generalize hA : ((List.range rs.length).map fun k : Nat => (k : Int)) = A at hl0
  have hAm : ∀ x ∈ A, 0 ≤ x ∧ x < rs.length := fun x hx => by
    rw [← hA] at hx
    obtain ⟨k, hk, rfl⟩ := List.mem_map.mp hx
    have := List.mem_range.mp hk
    omega
  rw [seq_next (sub_next (g := gSet) (var_ok (i := 2) (d := .int (j : Nat)) rfl) (var_ok (i := 3) (d := .lst S.length) rfl) (var_ok (i := 1) (d := .int (i : Nat)) rfl) (set_lst (at_end _ _) (by rw [List.length_map, hl0]; exact hi))), set_last]
  rw [seq_next (sub_next (g := gSet) (var_ok (i := 1) (d := .int (i : Nat)) rfl) (var_ok (i := 3) (d := .lst S.length) rfl) (var_ok (i := 2) (d := .int (j : Nat)) rfl) (set_lst (at_end _ _) (by rw [List.length_set, List.length_map, hl0]; exact hj))), set_last]
  rw [← List.map_set, ← List.map_set]
  have hl1 : ((A.set i (j : Int)).set j (i : Int)).length = rs.length := by simp [hl0]
  have hBm : ∀ x ∈ ((A.set i (j : Int)).set j (i : Int)), 0 ≤ x ∧ x < rs.length := fun x hx => by
    rcases List.mem_or_eq_of_mem_set hx with z | z
    · rcases List.mem_or_eq_of_mem_set z with w | w
      · exact hAm x w
      · omega
    · omega
  generalize ((A.set i (j : Int)).set j (i : Int)) = B at hl1 hBm
  have x0 := Ext2.app S [B.map D.int]
  have bt := at_end S (B.map D.int)
  have hb2 := pool_len P
  replace R := R.ext x0
  replace P := P.app [B.map D.int]
  have kk : Keep S.length S (S ++ [B.map D.int]) := Keep.of x0 (Nat.le_refl _)
  have hnl : S.length ≤ (S ++ [B.map D.int]).length := x0.len
  generalize S ++ [B.map D.int] = S1 at R P bt x0 kk hnl
  generalize hnle : S.length = nl at bt hb2 kk hnl
  rw [seq_next (ret_asg (show eLst aNil _ S1 = .ok (.lst S1.length) (S1 ++ [[]]) from by simp [eLst, eL, aNil, dLst_ok]))]
  simp only [List.set_cons_zero, List.set_cons_succ]
  let sw : Nat → List Int := fun k => (Y (B.getD k 0).toNat).map fun p => if 0 ≤ p then B.getD p.toNat 0 else p
  obtain ⟨ρ', S', e1, ⟨a5, a6, e2⟩, rs', e3, e4, e5, e6⟩ := for_all (st := fun _ => True) (b := bName 5) (body := (sExpr (eMt mAppend (eVar 4) (aCons (eLc (iSeq (eB dIx (eVar 0) (eB dIx (eVar 3) (eVar 5)))) (bName 6) tTrue (eIf (eTest (eB dGe (eVar 6) (eC (.int 0)))) (eB dIx (eVar 3) (eVar 6)) (eVar 6)) [6]) aNil)))) (fun k ρ S' => (∃ a5 a6, ρ = [some (.lst lo), some (.int (i : Nat)), some (.int (j : Nat)), some (.lst nl), some (.lst S1.length), a5, a6]) ∧ ∃ rs', Rows S' S1.length rs' (YD sw) ∧ rs'.length = k ∧ Pool N S' ∧ Ext2 S1 S') (fun _ _ _ _ => trivial) (rngL 0 rs.length) [some (.lst lo), some (.int (i : Nat)), some (.int (j : Nat)), some (.lst nl), some (.lst S1.length), none, none] (S1 ++ [[]]) (fun k x ρ S' hx hI => by
      obtain ⟨⟨a5, a6, rfl⟩, rs', R', hk, P', x'⟩ := hI
      obtain ⟨hkn, rfl⟩ := rng_at hx
      have kb : k < B.length := by omega
      obtain ⟨z1, z2⟩ := hBm _ (getD_mem kb)
      have b' := x'.at_ hb2 bt
      obtain ⟨r, g1, g2, g3⟩ := (R.ext x').get (i := (B.getD k 0).toNat) (by omega)
      rw [Int.toNat_of_nonneg z1] at g3
      rw [YD_at] at g2
      obtain ⟨y1, y2, y3⟩ := h (B.getD k 0).toNat (by omega)
      have ea : eB dIx (eVar 0) (eB dIx (eVar 3) (eVar 5)) [some (.lst lo), some (.int (i : Nat)), some (.int (j : Nat)), some (.lst nl), some (.lst S1.length), some (.int (k : Nat)), a6] S' = .ok (.lst r) S' := b_ok (var_ok rfl) (b_ok (var_ok rfl) (var_ok rfl) (ix_lst b' (int_at' kb))) g3
      have e := lcI (v := 6) (e := (eIf (eTest (eB dGe (eVar 6) (eC (.int 0)))) (eB dIx (eVar 3) (eVar 6)) (eVar 6))) (fun p => if 0 ≤ p then B.getD p.toNat 0 else p) ea g2 (by omega) (fun p hp => by
        have hpn := y3 p hp
        have t1 : eTest (eB dGe (eVar 6) (eC (.int 0))) [some (.lst lo), some (.int (i : Nat)), some (.int (j : Nat)), some (.lst nl), some (.lst S1.length), some (.int (k : Nat)), some (.int p)] S' = .ok (decide (0 ≤ p)) S' := test_ok (ge_ok (var_ok rfl) c_ok)
        show eIf _ _ _ [some (.lst lo), some (.int (i : Nat)), some (.int (j : Nat)), some (.lst nl), some (.lst S1.length), some (.int (k : Nat)), some (.int p)] _ = _
        rw [if_e t1]
        by_cases q : 0 ≤ p
        · rw [decide_eq_true q, if_pos rfl, if_pos q]
          exact b_ok (var_ok rfl) (var_ok rfl) (by
            have w := ix_lst b' (int_at' (show p.toNat < B.length by omega))
            rwa [Int.toNat_of_nonneg q] at w)
        · rw [decide_eq_false q, if_neg (by decide), if_neg q]
          exact var_ok rfl)
      obtain ⟨S2, rs2, f1, f2, f3, f4, f5, f6⟩ := push_told (v := 4) R' hk (by omega) rfl (Ext2.refl S') e P'
      refine ⟨_, _, S2, rfl, f1, ⟨_, _, rfl⟩, rs2, f2.congr fun i _ => ?_, f3, f4, ⟨Nat.le_trans x'.len f6, fun i h2' hi => ?_⟩⟩
      · unfold YD
        by_cases q : i = k
        · simp only [q, if_true]
          rfl
        · simp only [q, if_false]
      · rw [f5 i (by omega) h2' (Nat.lt_of_lt_of_le hi x'.len), x'.keep i h2' hi]) ⟨⟨_, _, rfl⟩, [], rows_nil (pool_len P) _, rfl, P.app _, Ext2.app _ _⟩
  subst e2
  rw [rngL_length] at e4
  rw [seq_next (for_rng (n := rs.length) (args1 ((R.ext (Ext2.app S1 [[]])).len_ev rfl)) (by omega) e1)]
  have hY : ∀ k, k < rs.length → sw k ≠ [] ∧ (sw k).length ≤ 1000 := fun k hk => by
    obtain ⟨z1, z2⟩ := hBm _ (getD_mem (show k < B.length by omega))
    obtain ⟨y1, y2, _⟩ := h (B.getD k 0).toNat (by omega)
    have hl : (sw k).length = (Y (B.getD k 0).toNat).length := List.length_map _
    refine ⟨fun z => y1 (List.length_eq_zero_iff.mp (by rw [← hl, z]; rfl)), by omega⟩
  obtain ⟨G, t⟩ := told_ok e3 e4 hY (by omega)
  rw [ret_ret ((call1 (var_ok rfl)).trans t)]
  exact ⟨_, _, rfl, vp_told (by omega) fun i hi => (hY i hi).2, e5.app G, kk.trans (Keep.of (e6.trans (Ext2.app _ G)) hnl)⟩
end LawM
end
section
set_option Elab.async false
set_option linter.all false
set_option maxRecDepth 100000
set_option maxHeartbeats 2000000
/-! L10: one change. -/
namespace LawM
open PySem PySem.Spec PyProof.Rows L2 MP
/-- a sheet as it is told -/
structure ShOk (sh : Sheet) : Prop where
  len : 1 ≤ sh.length ∧ sh.length ≤ 80
  row : ∀ c ∈ sh, 1 ≤ c.length ∧ c.length ≤ 400 ∧ ∀ p ∈ c, -4 ≤ p ∧ p < sh.length
theorem lc_lists {ρ : MP.Env} {v : Nat} (hv : v < ρ.length) : ∀ (cs : List (List Int)) (acc : List D) (S : Sto), acc.length + cs.length ≤ 1000000 → lcLoop (fun _ => True) (bName v) tTrue (eL dListOf (aCons (eVar v) aNil)) ρ (cs.map di) acc S = .ok (acc ++ (List.range' S.length cs.length).map D.lst) (S ++ cs.map fun c => c.map D.int)
  | [], acc, S, _ => by rw [List.map_nil, lc_nil trivial]; simp
  | c :: cs, acc, S, hl => by
    simp only [List.length_cons] at hl
    have e : eL dListOf (aCons (eVar v) aNil) (ρ.set v (some (di c))) S = .ok (.lst S.length) (S ++ [c.map D.int]) := by
      unfold eL
      rw [args1 (var_ok (d := di c) (by rw [List.getElem?_set_self hv])), Res.bind_ok]
      rfl
    rw [List.map_cons, lc_cons trivial rfl rfl e (by omega), lc_lists hv cs _ _ (by simp; omega)]
    simp [List.range'_succ]
theorem lists_ok {sh : Sheet} {ρ : MP.Env} {S : Sto} {v i : Nat} (hi : ρ[i]? = some (some (dsh sh))) (hv : v < ρ.length) (hS : 2 ≤ S.length) (hl : sh.length ≤ 1000) :
    ∃ S' lo rs G, eLc (iSeq (eVar i)) (bName v) tTrue (eL dListOf (aCons (eVar v) aNil)) [v] ρ S = .ok (.lst lo) S' ∧ RowsL S' lo rs sh ∧ S' = S ++ G ∧ ∀ r ∈ lo :: rs, S.length ≤ r := by
  obtain ⟨S', lo, rs, G, e, R, hG, hge⟩ := lit_ok (ρ := ρ) (a := fun _ S => .ok ((List.range' S.length sh.length).map D.lst) (S ++ sh.map fun c => c.map D.int)) (sh := sh) (fun S => rfl) hS hl
  refine ⟨S', lo, rs, G, ?_, R, hG, hge⟩
  rw [← e]
  have hw : v < (wipeE ρ [v]).length := by
    show v < (ρ.set v none).length
    rw [List.length_set]
    exact hv
  unfold eLc iSeq srcOf
  rw [var_ok hi, Res.bind_ok]
  show (lcLoop (fun _ => True) (bName v) tTrue (eL dListOf (aCons (eVar v) aNil)) (wipeE ρ [v]) (sh.map di) [] S).bind _ = _
  rw [lc_lists hw sh [] S (by simp; omega), Res.bind_ok]
  unfold eLst eL
  rw [Res.bind_ok, dLst_ok (by simp; exact hl), lift_some, List.nil_append]
theorem slT_hi {a e : Ev} {k : Nat} {ρ : MP.Env} {S S1 S2 : Sto} {xs : List D} (h : a ρ S = .ok (.tup xs) S1) (he : e ρ S1 = .ok (.int (k : Int)) S2) (hk : k ≤ xs.length) : eSl a (some e) none ρ S = .ok (.tup (xs.drop k)) S2 := by
  unfold eSl
  simp only [h, Res.bind_ok, he, dSl, lift_some, cut_hi hk]
theorem tup_1 {e : Ev} {ρ : MP.Env} {S S1 : Sto} {x : D} (h : e ρ S = .ok x S1) : eTup (aCons e aNil) ρ S = .ok (.tup [x]) S1 := by
  unfold eTup eL
  rw [args1 h, Res.bind_ok, dTup_ok (by simp), lift_some]
theorem vp_sub {sh : Sheet} (h : ShOk sh) {ys : List D} (hl : ys.length ≤ 100) (hy : ∀ d ∈ ys, d ∈ sh.map di ∨ VC d = true) : VP (.tup ys) = true := vp_tup hl fun d hd => by
  rcases hy d hd with z | z
  · obtain ⟨c, hc, rfl⟩ := List.mem_map.mp z
    exact vc_di (by have := (h.row c hc).2.1; omega)
  · exact z
theorem vp_dsh {sh : Sheet} (h : ShOk sh) : VP (dsh sh) = true := vp_sub h (by rw [List.length_map]; have := h.len.2; omega) fun d hd => .inl hd
def RtOk (M B : Nat) (S0 : Sto) (F : MP.Flow) : Prop := ∃ v S', F = .ret v S' ∧ VP v = true ∧ Pool M S' ∧ Keep B S0 S'
theorem rt_seq {M B : Nat} {S0 : Sto} {a b : Es} {ρ : MP.Env} {S : Sto} (h : RtOk M B S0 (a ρ S)) : RtOk M B S0 (sSeq a b ρ S) := by
  obtain ⟨v, S', e, h⟩ := h
  exact ⟨v, S', seq_ret e, h⟩
theorem rt_end {M B : Nat} {S0 : Sto} {F : MP.Flow} (h : RtOk M B S0 F) : FewOk M B S0 (flowRes F) := by
  obtain ⟨v, S', e, h⟩ := h
  exact ⟨v, S', by rw [e]; rfl, h⟩
theorem rt_ret {M K B C : Nat} {S0 S1 : Sto} {e : Ev} {ρ : MP.Env} {S : Sto} (h : FewOk K C S1 (e ρ S)) (k : K ≤ M) (x : Keep B S0 S1) (hC : B ≤ C) : RtOk M B S0 (sRet e ρ S) := by
  obtain ⟨v, S', q, a, b, c⟩ := h
  exact ⟨v, S', ret_ret q, a, b.mono k, fun i h1 h2 => (c i h1 (Nat.lt_of_lt_of_le h2 hC)).trans (x i h1 h2)⟩
theorem rt_if {M B : Nat} {S0 : Sto} {t : EvB} {a b : Es} {ρ : MP.Env} {S : Sto} {k : Bool} (ht : t ρ S = .ok k S) (hk : k = true) (h : RtOk M B S0 (a ρ S)) : RtOk M B S0 (sIf t a b ρ S) := by
  subst hk
  rw [if_t ht]
  exact h
theorem changed_ok {N : Nat} {S : Sto} {sh : Sheet} (h : ShOk sh) (P : Pool N S) (hN : N < 2 ^ 35) (pick : Nat) (hp : pick < 14) : FewOk (N + 8) S.length S (rf__law_changed [.lst 1, dsh sh, .int (pick : Nat)] S) := by
  obtain ⟨⟨n1, n2⟩, hrow⟩ := id h
  unfold rf__law_changed runDef ev__law_changed
  rw [show begins 6 [D.lst 1, dsh sh, .int (pick : Nat)] = [some (.lst 1), some (dsh sh), some (.int (pick : Nat)), none, none, none] from rfl]
  obtain ⟨S1, lo, rs, G, e1, R, hG, hge⟩ := lists_ok (sh := sh) (v := 4) (i := 1) (ρ := [some (.lst 1), some (dsh sh), some (.int (pick : Nat)), none, none, none]) (S := S) rfl (by simp) (pool_len P) (by omega)
  have P1 : Pool N S1 := hG ▸ P.app G
  have X1 : Ext2 S S1 := hG ▸ Ext2.app S G
  clear hG P
  rw [seq_next (ret_asg e1)]
  simp only [List.set_cons_zero, List.set_cons_succ]
  have hlen : ∀ (S : Sto) (a b c d : Option D), eL dLen (aCons (eVar 1) aNil) [some (.lst 1), some (dsh sh), a, b, c, d] S = .ok (.int (sh.length : Nat)) S := fun S a b c d => (lenT_ok (xs := sh.map di) (var_ok rfl)).trans (by rw [List.length_map])
  obtain ⟨i, S2, t1, l1, P2, x2⟩ := tkP take_is (e := eL dLen (aCons (eVar 1) aNil)) (ρ := [some (.lst 1), some (dsh sh), some (.int (pick : Nat)), some (.lst lo), none, none]) (m := sh.length) P1 rfl (hlen _ _ _ _ _) (by omega) (by omega) (by omega)
  rw [seq_next (ret_asg t1)]
  simp only [List.set_cons_zero, List.set_cons_succ]
  replace R := R.ext x2
  obtain ⟨R, hrl⟩ := R
  have hmemY : ∀ k, k < rs.length → sh.getD k [] ∈ sh := fun k hk => by
    rw [List.getD_eq_getElem?_getD, List.getElem?_eq_getElem (by omega)]
    exact List.getElem_mem _
  have Q : QR S2 lo rs := ⟨R.lo2, R.at0, (List.nodup_cons.mp R.nd).1, R.ge, fun r hr => by
    obtain ⟨k, hk⟩ := List.getElem?_of_mem hr
    exact ⟨_, R.at_ k r hk, good_ints (Nat.le_trans (hrow _ (hmemY k (List.getElem?_eq_some_iff.mp hk).1)).2.1 (by decide))⟩⟩
  have X2 : Ext2 S S2 := X1.trans x2
  have K2 : Keep S.length S S2 := Keep.of X2 (Nat.le_refl _)
  have L2' : S.length ≤ S2.length := X2.len
  clear e1 t1 x2
  have te : ∀ (n : Int) (S : Sto), eTest (eB dEq (eVar 2) (eC (.int n))) [some (.lst 1), some (dsh sh), some (.int (pick : Nat)), some (.lst lo), none, some (.int (i : Nat))] S = .ok (decide (((pick : Nat) : Int) = n)) S := fun n S => test_ok (eq_ok (var_ok rfl) c_ok)
  have t7 : eTest (eB dLt (eVar 2) (eC (.int 7))) [some (.lst 1), some (dsh sh), some (.int (pick : Nat)), some (.lst lo), none, some (.int (i : Nat))] S2 = .ok (decide (((pick : Nat) : Int) < 7)) S2 := test_ok (lt_ok (var_ok rfl) c_ok)
  have k1 : ∀ S, eB dAdd (eVar 5) (eC (.int 1)) [some (.lst 1), some (dsh sh), some (.int (pick : Nat)), some (.lst lo), none, some (.int (i : Nat))] S = .ok (.int ((i + 1 : Nat) : Int)) S := fun S => add_ok (x := (i : Int)) (y := 1) (var_ok rfl) c_ok
  have eLo : ∀ S, eSl (eVar 1) none (some (eVar 5)) [some (.lst 1), some (dsh sh), some (.int (pick : Nat)), some (.lst lo), none, some (.int (i : Nat))] S = .ok (.tup ((sh.map di).take i)) S := fun S => slT_lo (var_ok (i := 1) (d := .tup (sh.map di)) rfl) (var_ok rfl)
  have eHi : ∀ S, eSl (eVar 1) (some (eB dAdd (eVar 5) (eC (.int 1)))) none [some (.lst 1), some (dsh sh), some (.int (pick : Nat)), some (.lst lo), none, some (.int (i : Nat))] S = .ok (.tup ((sh.map di).drop (i + 1))) S := fun S => slT_hi (var_ok (i := 1) (d := .tup (sh.map di)) rfl) (k1 S) (by rw [List.length_map]; omega)
  have put : ∀ (e : Ev) (x : D) (S3 S' : Sto) (M : Nat), e [some (.lst 1), some (dsh sh), some (.int (pick : Nat)), some (.lst lo), none, some (.int (i : Nat))] S3 = .ok x S' → VC x = true → Pool M S' → M ≤ N + 8 → Keep S.length S S' → RtOk (N + 8) S.length S (sRet (eB dAdd (eB dAdd (eSl (eVar 1) none (some (eVar 5))) (eTup (aCons e aNil))) (eSl (eVar 1) (some (eB dAdd (eVar 5) (eC (.int 1)))) none)) [some (.lst 1), some (dsh sh), some (.int (pick : Nat)), some (.lst lo), none, some (.int (i : Nat))] S3) := fun e x S3 S' M he hx PM hM KM => by
    rw [ret_ret (b_ok (b_ok (eLo S3) (tup_1 he) (add_tup (by simp; omega))) (eHi S') (add_tup (by simp; omega)))]
    refine ⟨_, _, rfl, vp_sub h (by simp; omega) fun d hd => ?_, PM.mono hM, KM⟩
    simp only [List.mem_append, List.mem_singleton] at hd
    rcases hd with (z | z) | z
    · exact .inl (List.mem_of_mem_take z)
    · rw [z]
      exact .inr hx
    · exact .inl (List.mem_of_mem_drop z)
  refine rt_end ?_
  by_cases p7' : ((pick : Nat) : Int) < 7
  · refine rt_seq (rt_if t7 (decide_eq_true p7') (rt_ret (K := N + 1 + 5) (C := S.length) (S1 := S2) ?_ (by omega) K2 (Nat.le_refl _)))
    rw [call3 (var_ok rfl) (var_ok rfl) (var_ok rfl)]
    exact few_ok Q (fun r hr => by
      obtain ⟨k, hk⟩ := List.getElem?_of_mem hr
      have q := hrow _ (hmemY k (List.getElem?_eq_some_iff.mp hk).1)
      refine ⟨_, R.at_ k r hk, ?_, ?_, ?_⟩
      · show 1 ≤ ((sh.getD k []).map D.int).length
        rw [List.length_map]
        exact q.1
      · show ((sh.getD k []).map D.int).length ≤ 400
        rw [List.length_map]
        exact q.2.1
      · intro d hd
        obtain ⟨x, _, rfl⟩ := List.mem_map.mp hd
        rfl) (by omega) (by omega) P2 (by omega) pick hge L2'
  rw [decide_eq_false p7'] at t7
  rw [if_no t7 rfl]
  have hY : ∀ k, k < rs.length → (fun i => sh.getD i []) k ≠ [] ∧ ((fun i => sh.getD i []) k).length ≤ 400 ∧ (∀ p ∈ (fun i => sh.getD i []) k, -4 ≤ p) ∧ ∀ p ∈ (fun i => sh.getD i []) k, p < rs.length := fun k hk => by
    have q := hrow _ (hmemY k hk)
    refine ⟨fun z => ?_, q.2.1, fun p hp => (q.2.2 p hp).1, fun p hp => by have := (q.2.2 p hp).2; omega⟩
    have z : sh.getD k [] = [] := z
    rw [z] at q
    exact absurd q.1 (by decide)
  by_cases p7 : ((pick : Nat) : Int) = 7
  · refine rt_seq (rt_if (te 7 S2) (decide_eq_true p7) ?_)
    obtain ⟨j, S3, t3, l3, P3, x3⟩ := tkP take_is (e := eL dLen (aCons (eVar 1) aNil)) (ρ := [some (.lst 1), some (dsh sh), some (.int (pick : Nat)), some (.lst lo), none, some (.int (i : Nat))]) (m := sh.length) P2 rfl (hlen _ _ _ _ _) (by omega) (by omega) (by omega)
    refine rt_ret (K := N + 1 + 1) (C := S3.length) (S1 := S3) ?_ (by omega) (Keep.of (X2.trans x3) (Nat.le_refl _)) (X2.trans x3).len
    rw [call3 (var_ok rfl) (var_ok rfl) t3]
    exact swapped_ok (R.ext x3) (by omega) (fun k hk => ⟨(hY k hk).1, (hY k hk).2.1, (hY k hk).2.2.2⟩) (by omega) (by omega) P3
  have h7 := te 7 S2
  rw [decide_eq_false p7] at h7
  rw [if_no h7 rfl]
  by_cases p8 : ((pick : Nat) : Int) = 8
  · refine rt_seq (rt_if (te 8 S2) (decide_eq_true p8) ?_)
    obtain ⟨S3, l3, r3, G3, e3, ⟨R3, q3⟩, hG3, b3⟩ := lit_ok (ρ := [some (.lst 1), some (dsh sh), some (.int (pick : Nat)), some (.lst lo), none, some (.int (i : Nat))]) (a := (aCons (eLst (aCons (eU dNeg (eC (.int 2))) (aCons (eU dNeg (eC (.int 3))) (aCons (eU dNeg (eC (.int 4))) (aCons (eU dNeg (eC (.int 1))) aNil))))) (aCons (eLst (aCons (eU dNeg (eC (.int 4))) (aCons (eU dNeg (eC (.int 1))) (aCons (eU dNeg (eC (.int 2))) (aCons (eU dNeg (eC (.int 3))) aNil))))) (aCons (eLst (aCons (eU dNeg (eC (.int 4))) (aCons (eU dNeg (eC (.int 3))) (aCons (eU dNeg (eC (.int 2))) (aCons (eU dNeg (eC (.int 1))) aNil))))) aNil)))) (sh := [[-2, -3, -4, -1], [-4, -1, -2, -3], [-4, -3, -2, -1]]) (by repeat' first | exact litR_nil | exact litI_nil | (refine litR_cons ?_ ?_ (by first | decide | simp)) | refine litI_neg ?_ | refine litI_pos ?_) (S := S2) (pool_len P2) (by decide)
    have P3 : Pool (N + 1) S3 := hG3 ▸ P2.app G3
    have x3 : Ext2 S2 S3 := hG3 ▸ Ext2.app S2 G3
    obtain ⟨j, S4, t4, l4, P4, x4⟩ := tkP take_is (e := eC (.int 3)) (ρ := [some (.lst 1), some (dsh sh), some (.int (pick : Nat)), some (.lst lo), none, some (.int (i : Nat))]) (m := 3) P3 rfl c_ok (by omega) (by omega) (by omega)
    have q3' : r3.length = 3 := q3
    obtain ⟨sd, g1, g2, g3⟩ := (R3.ext x4).get (i := j) (by omega)
    refine rt_ret (K := N + 1 + 1) (C := S4.length) (S1 := S4) ?_ (by omega) (Keep.of ((X2.trans x3).trans x4) (Nat.le_refl _)) ((X2.trans x3).trans x4).len
    rw [call2 (var_ok rfl) (b_ok e3 t4 g3)]
    rw [YD_at] at g2
    exact mirror_ok ((R.ext x3).ext x4) (by omega) (fun k hk => ⟨(hY k hk).1, (hY k hk).2.1, (hY k hk).2.2.1⟩) g2 (by
      match j, l4 with
      | 0, _ => rfl
      | 1, _ => rfl
      | 2, _ => rfl) (R3.ge sd (List.mem_of_getElem? g1)) P4
  have h8 := te 8 S2
  rw [decide_eq_false p8] at h8
  rw [if_no h8 rfl]
  by_cases p9 : ((pick : Nat) : Int) = 9
  · refine rt_seq (rt_if (te 9 S2) (decide_eq_true p9) ?_)
    obtain ⟨r, g1, g2, g3⟩ := R.get (i := i) (by omega)
    exact put (eB dIx (eVar 3) (eVar 5)) (.lst r) S2 S2 (N + 1) (b_ok (var_ok rfl) (var_ok rfl) g3) rfl P2 (by omega) K2
  have h9 := te 9 S2
  rw [decide_eq_false p9] at h9
  rw [if_no h9 rfl]
  by_cases p10 : ((pick : Nat) : Int) = 10
  · refine rt_seq (rt_if (te 10 S2) (decide_eq_true p10) ?_)
    refine ⟨_, _, ret_ret (b_ok (eLo S2) (eHi S2) (add_tup (by simp; omega))), vp_sub h (by simp; omega) fun d hd => ?_, P2.mono (by omega), K2⟩
    rcases List.mem_append.mp hd with z | z
    · exact .inl (List.mem_of_mem_take z)
    · exact .inl (List.mem_of_mem_drop z)
  have h10 := te 10 S2
  rw [decide_eq_false p10] at h10
  rw [if_no h10 rfl]
  by_cases p11 : ((pick : Nat) : Int) = 11
  · refine rt_seq (rt_if (te 11 S2) (decide_eq_true p11) ?_)
    obtain ⟨d, S3, e, hd, P3, x3⟩ := one_of (m := 4) (G := []) (a := (aCons (eTup (aCons (eU dNeg (eC (.int 4))) (aCons (eU dNeg (eC (.int 3))) (aCons (eC (.int 0)) aNil)))) (aCons (eTup (aCons (eU dNeg (eC (.int 4))) (aCons (eU dNeg (eC (.int 3))) (aCons (eU dNeg (eC (.int 2))) (aCons (eU dNeg (eC (.int 1))) aNil))))) (aCons (eTup (aCons (eC (.int 0)) (aCons (eC (.int 1)) (aCons (eC (.int 2)) aNil)))) (aCons (eTup aNil) aNil)))))
      (xs := [di [-4, -3, 0], di [-4, -3, -2, -1], di [0, 1, 2], .tup []]) (ρ := [some (.lst 1), some (dsh sh), some (.int (pick : Nat)), some (.lst lo), none, some (.int (i : Nat))]) (S := S2) (by simp [aCons, aNil, eC, eU, eL, eTup, dNeg, dTup_ok, di]) rfl (k := 4) rfl (by decide) (by decide) P2 rfl (by omega)
    refine ⟨_, _, ret_ret (b_ok (var_ok (i := 1) (d := .tup (sh.map di)) rfl) (tup_1 e) (add_tup (by simp; omega))), vp_sub h (by simp; omega) fun x hx => ?_, P3.mono (by omega), Keep.of (X2.trans x3) (Nat.le_refl _)⟩
    rcases List.mem_append.mp hx with z | z
    · exact .inl z
    · simp only [List.mem_singleton] at z
      rw [z]
      refine .inr ?_
      simp only [List.mem_cons, List.not_mem_nil, or_false] at hd
      rcases hd with rfl | rfl | rfl | rfl <;> rfl
  have h11 := te 11 S2
  rw [decide_eq_false p11] at h11
  rw [if_no h11 rfl]
  by_cases p12 : ((pick : Nat) : Int) = 12
  · refine rt_seq (rt_if (te 12 S2) (decide_eq_true p12) ?_)
    obtain ⟨d, S3, e, hd, P3, x3⟩ := one_of (m := 10) (G := [sh.map di, []]) (a := (aCons (eL dListOf (aCons (eVar 1) aNil)) (aCons (eC .non) (aCons (eC (.int 5)) (aCons (eC (.str "plan")) (aCons (eTup aNil) (aCons (eC (.bl true)) (aCons (eLst aNil) (aCons (eTup (aCons (eTup aNil) aNil)) (aCons (eTup (aCons (eC .non) aNil)) (aCons (eTup (aCons (eVar 1) aNil)) aNil)))))))))))
      (xs := [.lst S2.length, .non, .int 5, .str "plan", .tup [], .bl true, .lst (S2.length + 1), .tup [.tup []], .tup [.non], .tup [dsh sh]]) (ρ := [some (.lst 1), some (dsh sh), some (.int (pick : Nat)), some (.lst lo), none, some (.int (i : Nat))]) (S := S2) (by
        have v1 := fun S => var_ok (i := 1) (d := dsh sh) (ρ := [some (.lst 1), some (dsh sh), some (.int (pick : Nat)), some (.lst lo), none, some (.int (i : Nat))]) (S := S) rfl
        have v2 : ∀ S, dListOf [dsh sh] S = some (.lst S.length, S ++ [sh.map di]) := fun S => rfl
        simp [aCons, aNil, eC, eL, eTup, eLst, dTup_ok, dLst_ok, v1, v2]) rfl (k := 10) rfl (by decide) (by decide) P2 rfl (by omega)
    refine ⟨_, _, ret_ret e, ?_, P3.mono (by omega), Keep.of (X2.trans x3) (Nat.le_refl _)⟩
    simp only [List.mem_cons, List.not_mem_nil, or_false] at hd
    rcases hd with rfl | rfl | rfl | rfl | rfl | rfl | rfl | rfl | rfl | rfl
    iterate 9 rfl
    refine vp_tup (by simp) fun d hd => ?_
    simp only [List.mem_singleton] at hd
    rw [hd]
    exact vc_row ⟨by rw [List.length_map]; omega, by
      rw [List.all_eq_true]
      intro x hx
      obtain ⟨c, _, rfl⟩ := List.mem_map.mp hx
      rfl⟩
  have h12 := te 12 S2
  rw [decide_eq_false p12] at h12
  rw [if_no h12 rfl]
  obtain ⟨d, S3, e, hd, P3, x3⟩ := one_of (m := 6) (G := []) (a := (aCons (eC .non) (aCons (eC (.int 3)) (aCons (eC (.str "WNES")) (aCons (eTup aNil) (aCons (eTup (aCons (eU dNeg (eC (.int 4))) (aCons (eU dNeg (eC (.int 3))) aNil))) (aCons (eTup (aCons (eU dNeg (eC (.int 4))) (aCons (eU dNeg (eC (.int 3))) (aCons (eU dNeg (eC (.int 3))) (aCons (eU dNeg (eC (.int 1))) aNil))))) aNil)))))))
    (xs := [.non, .int 3, .str "WNES", .tup [], di [-4, -3], di [-4, -3, -3, -1]]) (ρ := [some (.lst 1), some (dsh sh), some (.int (pick : Nat)), some (.lst lo), none, some (.int (i : Nat))]) (S := S2) (by simp [aCons, aNil, eC, eU, eL, eTup, dNeg, dTup_ok, di]) rfl (k := 6) rfl (by decide) (by decide) P2 rfl (by omega)
  refine put _ d S2 S3 (N + 1 + 1) e ?_ P3 (by omega) (Keep.of (X2.trans x3) (Nat.le_refl _))
  simp only [List.mem_cons, List.not_mem_nil, or_false] at hd
  rcases hd with rfl | rfl | rfl | rfl | rfl | rfl <;> rfl
end LawM
end
section
set_option Elab.async false
set_option linter.all false
set_option maxRecDepth 100000
set_option maxHeartbeats 2000000
/-! L11: asked. -/
namespace LawM
open PySem PySem.Spec PyProof.Rows L2 MP
theorem find_w {α : Type} {l : List α} {p : α → Bool} {f : α → Str × D} {w : Str} {a : D} (hf : ∀ x, okS (f x).1 = true) (h : (l.find? p).map f = some (w, a)) : okS w = true := by
  cases q : l.find? p with
  | none => rw [q] at h; cases h
  | some x =>
    rw [q] at h
    have := hf x
    have e : f x = (w, a) := Option.some.inj h
    rw [e] at this
    exact this
theorem faultSh_w {sh : Sheet} {w : Str} {a : D} (h : faultSh sh = some (w, a)) : okS w = true := by
  unfold faultSh at h
  rcases h1 : ((pairs sh).find? (tieBad sh)).map (badAt "tie") with _ | ⟨w1, a1⟩
  · rw [h1] at h
    rcases h2 : ((pairs sh).find? (faceBad sh)).map (badAt "face") with _ | ⟨w1, a1⟩
    · rw [h2] at h
      rcases h3 : ([-4, -3, -2, -1].find? fun s => !hasRow sh s).map fun s => fl "side" (.int s) with _ | ⟨w1, a1⟩
      · rw [h3] at h
        by_cases h4 : whole sh = true
        · rw [if_pos h4] at h
          by_cases h5 : lows sh = 3 * sh.length + 1
          · rw [if_pos h5] at h
            cases h
          · rw [if_neg h5] at h
            cases h
            decide +kernel
        · rw [if_neg h4] at h
          cases h
          decide +kernel
      · rw [h3] at h
        cases h
        exact find_w (fun _ => (by decide +kernel : okS "side" = true)) h3
    · rw [h2] at h
      cases h
      exact find_w (fun _ => (by decide +kernel : okS "face" = true)) h2
  · rw [h1] at h
    cases h
    exact find_w (fun _ => (by decide +kernel : okS "tie" = true)) h1
theorem fault_w {d : D} {w : Str} {a : D} (h : fault d = some (w, a)) : okS w = true := by
  unfold fault at h
  split at h
  · rename_i xs
    split at h
    · cases h
      decide +kernel
    · rcases h1 : firstBad xs.length 0 xs with _ | ⟨w1, a1⟩
      · rw [h1] at h
        cases h2 : shL xs with
        | none => rw [h2] at h; cases h
        | some sh =>
          rw [h2] at h
          exact faultSh_w h
      · rw [h1] at h
        cases h
        rw [firstBad_find] at h1
        exact find_w (fun _ => (by decide +kernel : okS "circle" = true)) h1
  · cases h
    decide +kernel
def lenD : D → Nat
  | .tup xs => xs.length
  | _ => 0
def dueR (v : D) : D := match fault v with
  | some (w, a) => .tup [.str w, a]
  | none => .tup [.str "let", .int (lenD v : Nat)]
theorem kw1 {F : List D → Sto → Res D} {a : Ev} {ρ : MP.Env} {S S1 : Sto} {x : D} (h1 : a ρ S = .ok x S1) : eKw 0 1 1 pm01 F aNil (aCons a aNil) ρ S = F [x] S1 := by
  simp [eKw, aCons, aNil, h1, pm01]
theorem letsR_eq {v : D} {S : Sto} : letsR v S = match fault v with
  | some (w, a) => .exc "InvalidPaper" ["at", "word"] [a, .str w] S
  | none => .ok (.int (lenD v : Nat)) S := by
  unfold letsR
  cases fault v with
  | some p => rfl
  | none => cases v <;> rfl
theorem asg_exc {e : Ev} {i : Nat} {ρ : MP.Env} {S S1 : Sto} {n : Str} {ns : List Str} {ds : List D} (h : e ρ S = .exc n ns ds S1) : sAsg i e ρ S = .exc n ns ds ρ S1 := by
  unfold sAsg
  rw [h]
  rfl
theorem tryAs_hit {i : Nat} {dec : Str → Option Bool} {body suite : Es} {ρ ρ' : MP.Env} {S S' : Sto} {n : Str} {ns : List Str} {ds : List D} (h : body ρ S = .exc n ns ds ρ' S') (hd : dec n = some true) : sTryAs i dec body suite ρ S = suiteEnd S' (unset i (suite (ρ'.set i (some (.exn n ns ds))) S')) := by
  unfold sTryAs
  rw [h]
  simp only [hd]
theorem noX_at {a : D} (h : atInt a = true) : noX a = true := by
  unfold atInt at h
  split at h
  · rfl
  · rfl
  · cases h
theorem ask_ok {v : D} {nm : Bool} (h : VP v = true) {S : Sto} : rf__law_ask [v, .bl nm] S = .ok (dueR v) S := by
  unfold rf__law_ask runDef ev__law_ask
  rw [show begins 4 [v, D.bl nm] = [some v, some (.bl nm), none, none] from rfl]
  have c : eIf (eTest (eVar 1)) (eKw 0 1 1 pm01 sp_lets_plan aNil (aCons (eVar 0) aNil)) (eCall 1 sp_lets_plan (aCons (eVar 0) aNil)) [some v, some (.bl nm), none, none] S = letsR v S := by
    rw [if_e (test_ok (var_ok (d := .bl nm) rfl)), kw1 (var_ok (d := v) rfl), call1 (var_ok (d := v) rfl), sp_lets h]
    cases nm <;> rfl
  rw [letsR_eq] at c
  unfold dueR
  cases hf : fault v with
  | none =>
    rw [hf] at c
    have e : ∀ suite : Es, sTryAs 3 (dec1 "InvalidPaper") (sAsg 2 (eIf (eTest (eVar 1)) (eKw 0 1 1 pm01 sp_lets_plan aNil (aCons (eVar 0) aNil)) (eCall 1 sp_lets_plan (aCons (eVar 0) aNil)))) suite [some v, some (.bl nm), none, none] S = .next [some v, some (.bl nm), some (.int (lenD v : Nat)), none] S := fun suite => by
      unfold sTryAs
      rw [ret_asg c]
      rfl
    rw [seq_next (e _), ret_ret (tup_2 c_ok (var_ok rfl))]
    rfl
  | some p =>
    obtain ⟨w, a⟩ := p
    rw [hf] at c
    have ha := fault_at hf
    have i1 : ∀ b, eTest (eU (dIsE "InvalidPaper" b) (eVar 3)) [some v, some (.bl nm), none, some (.exn "InvalidPaper" ["at", "word"] [a, .str w])] S = .ok b S := fun b => test_ok (u_ok (var_ok rfl) (by unfold dIsE; simp only [if_true]))
    have f1 : eXf "InvalidPaper" "word" (eVar 3) [some v, some (.bl nm), none, some (.exn "InvalidPaper" ["at", "word"] [a, .str w])] S = .ok (.str w) S := by
      unfold eXf
      rw [var_ok rfl, Res.bind_ok]
      simp only [if_true]
      rw [show fieldOf "word" ["at", "word"] [a, .str w] = some (.str w) from by simp [fieldOf]; exact fun z => absurd z (by decide +kernel)]
    have f2 : eXf "InvalidPaper" "at" (eVar 3) [some v, some (.bl nm), none, some (.exn "InvalidPaper" ["at", "word"] [a, .str w])] S = .ok a S := by
      unfold eXf
      rw [var_ok rfl, Res.bind_ok]
      simp only [if_true]
      rw [show fieldOf "at" ["at", "word"] [a, .str w] = some a from by simp [fieldOf]]
    rw [seq_ret (d := .tup [.str w, a]) (S' := S)]
    · rfl
    · rw [tryAs_hit (asg_exc c) (by unfold dec1; rw [if_pos rfl])]
      simp only [List.set_cons_zero, List.set_cons_succ]
      rw [if_no (or_2 (not_b (i1 true)) (or_2 (not_b (i1 true)) (not_b (i1 true)))) rfl, if_no (or_2 (i1 false) (i1 false)) rfl, ret_ret (tup_2 f1 f2)]
      unfold unset suiteEnd
      refine keepIf_pos ⟨?_, rfl⟩
      have := noX_at ha
      simp [noX, noXL, this]
end LawM
end
section
set_option Elab.async false
set_option linter.all false
set_option maxRecDepth 100000
set_option maxHeartbeats 2000000
/-! L12: the answers are alike. -/
namespace LawM
open PySem PySem.Spec PyProof.Rows L2 MP
def LikeAt (k : Nat) (d : D) : Prop := ∀ S, rr__law_like k [d, d] S = .ok (.bl true) S
theorem isi_si' {i : Int} {S : Sto} : dIsi "str" (.int i) S = some (.bl false, S) := isi_is
theorem like_int (k : Nat) (i : Int) : LikeAt (k + 1) (.int i) := fun S => by
  show runDef 3 (ev__law_like (rr__law_like k)) [.int i, .int i] S = _
  unfold runDef ev__law_like
  rw [show begins 3 [D.int i, .int i] = [some (.int i), some (.int i), none] from rfl]
  rw [if_no (test_ok (u_ok (var_ok rfl) isi_it)) rfl, if_no (test_ok (u_ok (var_ok rfl) isi_is)) rfl]
  rw [ret_ret (eAnd_ok ((call1 (var_ok rfl)).trans (spw rfl)) (eq_ok (var_ok rfl) (var_ok rfl))), decide_eq_true rfl]
  rfl
theorem like_str (k : Nat) {w : Str} (hw : okS w = true) : LikeAt (k + 1) (.str w) := fun S => by
  show runDef 3 (ev__law_like (rr__law_like k)) [.str w, .str w] S = _
  unfold runDef ev__law_like
  rw [show begins 3 [D.str w, .str w] = [some (.str w), some (.str w), none] from rfl]
  rw [if_no (test_ok (u_ok (var_ok rfl) isi_st)) rfl]
  rw [seq_ret ((if_t (test_ok (u_ok (var_ok rfl) isi_ss))).trans (ret_ret (eAnd_ok (u_ok (var_ok rfl) isi_ss) (b_ok (var_ok rfl) (var_ok rfl) (dEq_str hw hw)))))]
  simp [flowRes]
theorem like_tup (k : Nat) {xs : List D} (hl : xs.length ≤ 1000) (h : ∀ d ∈ xs, LikeAt k d) : LikeAt (k + 1) (.tup xs) := fun S => by
  show runDef 3 (ev__law_like (rr__law_like k)) [.tup xs, .tup xs] S = _
  unfold runDef ev__law_like
  rw [show begins 3 [D.tup xs, .tup xs] = [some (.tup xs), some (.tup xs), none] from rfl]
  obtain ⟨ρ', S', e1, ⟨x, e2⟩, e3⟩ := for_all (st := fun _ => True) (b := bName 2) (body := (sIf (eNotT (eTest (eCall 2 (rr__law_like k) (aCons (eB dIx (eVar 0) (eVar 2)) (aCons (eB dIx (eVar 1) (eVar 2)) aNil)))))
 (sRet (eC (.bl false)))
 sSkip)) (fun i ρ S' => (∃ x, ρ = [some (.tup xs), some (.tup xs), x]) ∧ S' = S) (fun _ _ _ _ => trivial) (rngL 0 xs.length) [some (.tup xs), some (.tup xs), none] S (fun i x ρ S' hx hI => by
      obtain ⟨⟨y, rfl⟩, rfl⟩ := hI
      obtain ⟨hi, rfl⟩ := rng_at hx
      refine ⟨_, _, _, rfl, if_s (not_b (test_ok ?_) (k := true)), ⟨_, rfl⟩, rfl⟩
      have hd := List.getElem?_eq_getElem hi
      exact (call2 (b_ok (var_ok rfl) (var_ok rfl) (ix_tup hd)) (b_ok (var_ok rfl) (var_ok rfl) (ix_tup hd))).trans (h _ (List.getElem_mem hi) _)) ⟨⟨_, rfl⟩, rfl⟩
  subst e2 e3
  have t1 : eTest (eB dNe (eL dLen (aCons (eVar 0) aNil)) (eL dLen (aCons (eVar 1) aNil))) [some (.tup xs), some (.tup xs), none] S' = .ok false S' := test_ok ((ne_ok (lenT_ok (var_ok rfl)) (lenT_ok (var_ok rfl))).trans (by rw [decide_eq_true rfl]; rfl))
  rw [seq_ret (d := .bl true) (S' := S')]
  · rfl
  · rw [if_t (test_ok (b := true) (u_ok (var_ok rfl) isi_tt)), if_no (or_2 (not_b (test_ok (b := true) (u_ok (var_ok rfl) isi_tt))) t1) rfl, seq_next (for_rng (n := xs.length) (args1 (lenT_ok (var_ok rfl))) (by omega) e1), ret_ret c_ok]
theorem like_at {k : Nat} {a : D} (h : atInt a = true) : LikeAt (k + 2) a := by
  unfold atInt at h
  split at h
  · exact like_int _ _
  · exact like_tup (k + 1) (by simp) fun d hd => by
      simp only [List.mem_cons, List.not_mem_nil, or_false] at hd
      rcases hd with rfl | rfl <;> exact like_int k _
  · cases h
theorem like_due {v : D} {S : Sto} : rf__law_like [dueR v, dueR v] S = .ok (.bl true) S := by
  unfold dueR
  cases hf : fault v with
  | none =>
    exact like_tup 5 (by simp) (fun d hd => by
      simp only [List.mem_cons, List.not_mem_nil, or_false] at hd
      rcases hd with rfl | rfl
      · exact like_str 4 (by decide +kernel)
      · exact like_int 4 _) S
  | some p =>
    obtain ⟨w, a⟩ := p
    exact like_tup 5 (by simp) (fun d hd => by
      simp only [List.mem_cons, List.not_mem_nil, or_false] at hd
      rcases hd with rfl | rfl
      · exact like_str 4 (fault_w hf)
      · exact like_at (k := 3) (fault_at hf)) S
theorem dEq_bl {i j : Bool} {S : Sto} : dEq (.bl i) (.bl j) S = some (.bl (i == j), S) := by
  have e : dEq (.bl i) (.bl j) S = some (.bl (PyData.eqv (.bool i) (.bool j)), S) := rfl
  rw [e]
  simp [PyData.eqv]
theorem spfault {v : D} (h : VP v = true) {S : Sto} : sp__law_fault [v] S = .ok (outF (fault v)) S := by
  unfold sp__law_fault
  simp only [h, if_true]
theorem spisp {v : D} (h : VP v = true) {S : Sto} : sp_is_plan [v] S = .ok (.bl (fault v).isNone) S := by
  unfold sp_is_plan
  simp only [h, if_true]
theorem right_ok {v : D} {nm : Bool} (h : VP v = true) {S : Sto} : rf__law_right [v, .bl nm] S = .ok (.bl true) S := by
  unfold rf__law_right runDef ev__law_right
  rw [show begins 5 [v, D.bl nm] = [some v, some (.bl nm), none, none, none] from rfl]
  have fin : flowRes ((sSeq (sIf (eNotT (eTest (eCall 2 rf__law_like (aCons (eCall 2 rf__law_ask (aCons (eVar 0) (aCons (eVar 1) aNil))) (aCons (eVar 2) aNil)))))
 (sRet (eC (.bl false)))
 sSkip)
 (sSeq (sAsg 4 (eIf (eTest (eVar 1)) (eCall 1 sp_is_plan (aCons (eVar 0) aNil)) (eKw 0 1 1 pm01 sp_is_plan aNil (aCons (eVar 0) aNil))))
 (sRet (eAnd (eU (dIsi "bool") (eVar 4)) (eAnd (eB dEq (eVar 4) (eVar 3)) (eCall 2 rf__law_like (aCons (eCall 2 rf__law_ask (aCons (eVar 0) (aCons (eNot (eVar 1)) aNil))) (aCons (eVar 2) aNil)))))))) [some v, some (.bl nm), some (dueR v), some (.bl (fault v).isNone), none] S) = .ok (.bl true) S := by
    have t1 : eTest (eCall 2 rf__law_like (aCons (eCall 2 rf__law_ask (aCons (eVar 0) (aCons (eVar 1) aNil))) (aCons (eVar 2) aNil))) [some v, some (.bl nm), some (dueR v), some (.bl (fault v).isNone), none] S = .ok true S := test_ok ((call2 ((call2 (var_ok rfl) (var_ok rfl)).trans (ask_ok h)) (var_ok rfl)).trans like_due)
    rw [if_no (not_b t1) rfl]
    have c : eIf (eTest (eVar 1)) (eCall 1 sp_is_plan (aCons (eVar 0) aNil)) (eKw 0 1 1 pm01 sp_is_plan aNil (aCons (eVar 0) aNil)) [some v, some (.bl nm), some (dueR v), some (.bl (fault v).isNone), none] S = .ok (.bl (fault v).isNone) S := by
      rw [if_e (test_ok (var_ok (d := .bl nm) rfl)), kw1 (var_ok (d := v) rfl), call1 (var_ok (d := v) rfl), spisp h]
      cases nm <;> rfl
    rw [seq_next (ret_asg c)]
    simp only [List.set_cons_zero, List.set_cons_succ]
    have t2 : eCall 2 rf__law_like (aCons (eCall 2 rf__law_ask (aCons (eVar 0) (aCons (eNot (eVar 1)) aNil))) (aCons (eVar 2) aNil)) [some v, some (.bl nm), some (dueR v), some (.bl (fault v).isNone), some (.bl (fault v).isNone)] S = .ok (.bl true) S := (call2 ((call2 (var_ok rfl) (not_v rfl)).trans (ask_ok h)) (var_ok rfl)).trans like_due
    rw [ret_ret (eAnd_ok (u_ok (var_ok rfl) isi_bb) (eAnd_ok ((b_ok (var_ok rfl) (var_ok rfl) dEq_bl).trans (by rw [beq_self_eq_true])) t2))]
    rfl
  rw [seq_next (ret_asg ((call1 (var_ok rfl)).trans (spfault h)))]
  simp only [List.set_cons_zero, List.set_cons_succ]
  cases hf : fault v with
  | none =>
    have e3 : eB dEq (eL dLen (aCons (eVar 2) aNil)) (eC (.int 0)) [some v, some (.bl nm), some (outF none), none, none] S = .ok (.bl true) S := (eq_ok (lenT_ok (xs := []) (var_ok rfl)) c_ok).trans rfl
    rw [seq_next (ret_asg e3)]
    simp only [List.set_cons_zero, List.set_cons_succ]
    have hv : ∃ xs, v = .tup xs := by
      cases v <;> first
        | exact ⟨_, rfl⟩
        | (cases hf; done)
    obtain ⟨xs, rfl⟩ := hv
    rw [seq_next ((if_t (test_ok (var_ok rfl))).trans (ret_asg (tup_2 c_ok (lenT_ok (var_ok rfl)))))]
    simp only [List.set_cons_zero, List.set_cons_succ]
    rw [show dueR (.tup xs) = .tup [.str "let", .int (xs.length : Nat)] from by unfold dueR; rw [hf]; rfl, hf] at fin
    exact fin
  | some p =>
    obtain ⟨w, a⟩ := p
    have e3 : eB dEq (eL dLen (aCons (eVar 2) aNil)) (eC (.int 0)) [some v, some (.bl nm), some (outF (some (w, a))), none, none] S = .ok (.bl false) S := (eq_ok (lenT_ok (xs := [.str w, a]) (var_ok rfl)) c_ok).trans rfl
    rw [seq_next (ret_asg e3)]
    simp only [List.set_cons_zero, List.set_cons_succ]
    rw [if_no (test_ok (var_ok rfl)) rfl]
    rw [show dueR v = .tup [.str w, a] from by unfold dueR; rw [hf], hf] at fin
    exact fin
end LawM
end
section
set_option Elab.async false
set_option linter.all false
set_option maxRecDepth 100000
set_option maxHeartbeats 4000000
/-! the walk -/
namespace LawM
open PySem PySem.Spec PyProof.Rows L2 MP
def top (i : Nat) : Stmt := PySem.Challenge.pw_hungwall_k02_whole_lets_plan.main.body.getD i (.Pass ⟨0, 0, 0, 0⟩)
abbrev s_after : Stmt := top 1
abbrev s_ahead : Stmt := top 2
abbrev s_row_from : Stmt := top 3
abbrev s_is_integer : Stmt := top 11
abbrev s__need_side : Stmt := top 15
abbrev s_side_after : Stmt := top 13
abbrev s_is_place : Stmt := top 14
abbrev s__is_circle : Stmt := top 19
abbrev s__check_ties : Stmt := top 20
abbrev s__closes : Stmt := top 22
abbrev s__check_faces : Stmt := top 21
abbrev s__has_row : Stmt := top 23
abbrev s__is_whole : Stmt := top 24
abbrev s_lets_plan : Stmt := top 17
abbrev s_is_plan : Stmt := top 18
abbrev s__law_mixed : Stmt := top 26
abbrev s__law_pool : Stmt := top 27
abbrev s__law_take : Stmt := top 28
abbrev s__law_told : Stmt := top 29
abbrev s__law_part : Stmt := top 30
abbrev s__law_grow : Stmt := top 31
abbrev s__law_start : Stmt := top 32
abbrev s__law_whole : Stmt := top 33
abbrev s__law_circle : Stmt := top 34
abbrev s__law_after : Stmt := top 35
abbrev s__law_ahead : Stmt := top 36
abbrev s__law_corner : Stmt := top 37
abbrev s__law_edge : Stmt := top 38
abbrev s__law_hangs : Stmt := top 39
abbrev s__law_fault : Stmt := top 40
abbrev s__law_odd : Stmt := top 41
abbrev s__law_few : Stmt := top 42
abbrev s__law_swapped : Stmt := top 43
abbrev s__law_mirror : Stmt := top 44
abbrev s__law_changed : Stmt := top 45
abbrev s__law_ask : Stmt := top 46
abbrev s__law_like : Stmt := top 47
abbrev s__law_right : Stmt := top 48
abbrev s_law : Stmt := top 49
structure Ft (P : Program) (w : World) (K : PySem.W.Frag) (mg : Str → Option Value) (base : Heap) : Prop where
  fr_ValueError : mg "ValueError" = none
  fr_abs : mg "abs" = none
  fr_all : mg "all" = none
  fr_bool : mg "bool" = none
  fr_enumerate : mg "enumerate" = none
  fr_int : mg "int" = none
  fr_isinstance : mg "isinstance" = none
  fr_len : mg "len" = none
  fr_list : mg "list" = none
  fr_min : mg "min" = none
  fr_range : mg "range" = none
  fr_set : mg "set" = none
  fr_str : mg "str" = none
  fr_tuple : mg "tuple" = none
  g_after : mg "after" = some (.ref (He.ga K "after"))
  g_ahead : mg "ahead" = some (.ref (He.ga K "ahead"))
  g_row_from : mg "row_from" = some (.ref (He.ga K "row_from"))
  g_is_integer : mg "is_integer" = some (.ref (He.ga K "is_integer"))
  g__need_side : mg "_need_side" = some (.ref (He.ga K "_need_side"))
  g_side_after : mg "side_after" = some (.ref (He.ga K "side_after"))
  g_is_place : mg "is_place" = some (.ref (He.ga K "is_place"))
  g__is_circle : mg "_is_circle" = some (.ref (He.ga K "_is_circle"))
  g__check_ties : mg "_check_ties" = some (.ref (He.ga K "_check_ties"))
  g__closes : mg "_closes" = some (.ref (He.ga K "_closes"))
  g__check_faces : mg "_check_faces" = some (.ref (He.ga K "_check_faces"))
  g__has_row : mg "_has_row" = some (.ref (He.ga K "_has_row"))
  g__is_whole : mg "_is_whole" = some (.ref (He.ga K "_is_whole"))
  g_lets_plan : mg "lets_plan" = some (.ref (He.ga K "lets_plan"))
  g_is_plan : mg "is_plan" = some (.ref (He.ga K "is_plan"))
  g__law_mixed : mg "_law_mixed" = some (.ref (He.ga K "_law_mixed"))
  g__law_pool : mg "_law_pool" = some (.ref (He.ga K "_law_pool"))
  g__law_take : mg "_law_take" = some (.ref (He.ga K "_law_take"))
  g__law_told : mg "_law_told" = some (.ref (He.ga K "_law_told"))
  g__law_part : mg "_law_part" = some (.ref (He.ga K "_law_part"))
  g__law_grow : mg "_law_grow" = some (.ref (He.ga K "_law_grow"))
  g__law_start : mg "_law_start" = some (.ref (He.ga K "_law_start"))
  g__law_whole : mg "_law_whole" = some (.ref (He.ga K "_law_whole"))
  g__law_circle : mg "_law_circle" = some (.ref (He.ga K "_law_circle"))
  g__law_after : mg "_law_after" = some (.ref (He.ga K "_law_after"))
  g__law_ahead : mg "_law_ahead" = some (.ref (He.ga K "_law_ahead"))
  g__law_corner : mg "_law_corner" = some (.ref (He.ga K "_law_corner"))
  g__law_edge : mg "_law_edge" = some (.ref (He.ga K "_law_edge"))
  g__law_hangs : mg "_law_hangs" = some (.ref (He.ga K "_law_hangs"))
  g__law_fault : mg "_law_fault" = some (.ref (He.ga K "_law_fault"))
  g__law_odd : mg "_law_odd" = some (.ref (He.ga K "_law_odd"))
  g__law_few : mg "_law_few" = some (.ref (He.ga K "_law_few"))
  g__law_swapped : mg "_law_swapped" = some (.ref (He.ga K "_law_swapped"))
  g__law_mirror : mg "_law_mirror" = some (.ref (He.ga K "_law_mirror"))
  g__law_changed : mg "_law_changed" = some (.ref (He.ga K "_law_changed"))
  g__law_ask : mg "_law_ask" = some (.ref (He.ga K "_law_ask"))
  g__law_like : mg "_law_like" = some (.ref (He.ga K "_law_like"))
  g__law_right : mg "_law_right" = some (.ref (He.ga K "_law_right"))
  g_law : mg "law" = some (.ref (He.ga K "law"))
  f_after : ∃ fd, Fun K "after" "after" s_after (He.ga K "after") fd
  f_ahead : ∃ fd, Fun K "ahead" "ahead" s_ahead (He.ga K "ahead") fd
  f_row_from : ∃ fd, Fun K "row_from" "row_from" s_row_from (He.ga K "row_from") fd
  f_is_integer : ∃ fd, Fun K "is_integer" "is_integer" s_is_integer (He.ga K "is_integer") fd
  f__need_side : ∃ fd, Fun K "_need_side" "_need_side" s__need_side (He.ga K "_need_side") fd
  f_side_after : ∃ fd, Fun K "side_after" "side_after" s_side_after (He.ga K "side_after") fd
  f_is_place : ∃ fd, Fun K "is_place" "is_place" s_is_place (He.ga K "is_place") fd
  f__is_circle : ∃ fd, Fun K "_is_circle" "_is_circle" s__is_circle (He.ga K "_is_circle") fd
  f__check_ties : ∃ fd, Fun K "_check_ties" "_check_ties" s__check_ties (He.ga K "_check_ties") fd
  f__closes : ∃ fd, Fun K "_closes" "_closes" s__closes (He.ga K "_closes") fd
  f__check_faces : ∃ fd, Fun K "_check_faces" "_check_faces" s__check_faces (He.ga K "_check_faces") fd
  f__has_row : ∃ fd, Fun K "_has_row" "_has_row" s__has_row (He.ga K "_has_row") fd
  f__is_whole : ∃ fd, Fun K "_is_whole" "_is_whole" s__is_whole (He.ga K "_is_whole") fd
  f_lets_plan : ∃ fd, Fun K "lets_plan" "lets_plan" s_lets_plan (He.ga K "lets_plan") fd
  f_is_plan : ∃ fd, Fun K "is_plan" "is_plan" s_is_plan (He.ga K "is_plan") fd
  f__law_mixed : ∃ fd, Fun K "_law_mixed" "_law_mixed" s__law_mixed (He.ga K "_law_mixed") fd
  f__law_pool : ∃ fd, Fun K "_law_pool" "_law_pool" s__law_pool (He.ga K "_law_pool") fd
  f__law_take : ∃ fd, Fun K "_law_take" "_law_take" s__law_take (He.ga K "_law_take") fd
  f__law_told : ∃ fd, Fun K "_law_told" "_law_told" s__law_told (He.ga K "_law_told") fd
  f__law_part : ∃ fd, Fun K "_law_part" "_law_part" s__law_part (He.ga K "_law_part") fd
  f__law_grow : ∃ fd, Fun K "_law_grow" "_law_grow" s__law_grow (He.ga K "_law_grow") fd
  f__law_start : ∃ fd, Fun K "_law_start" "_law_start" s__law_start (He.ga K "_law_start") fd
  f__law_whole : ∃ fd, Fun K "_law_whole" "_law_whole" s__law_whole (He.ga K "_law_whole") fd
  f__law_circle : ∃ fd, Fun K "_law_circle" "_law_circle" s__law_circle (He.ga K "_law_circle") fd
  f__law_after : ∃ fd, Fun K "_law_after" "_law_after" s__law_after (He.ga K "_law_after") fd
  f__law_ahead : ∃ fd, Fun K "_law_ahead" "_law_ahead" s__law_ahead (He.ga K "_law_ahead") fd
  f__law_corner : ∃ fd, Fun K "_law_corner" "_law_corner" s__law_corner (He.ga K "_law_corner") fd
  f__law_edge : ∃ fd, Fun K "_law_edge" "_law_edge" s__law_edge (He.ga K "_law_edge") fd
  f__law_hangs : ∃ fd, Fun K "_law_hangs" "_law_hangs" s__law_hangs (He.ga K "_law_hangs") fd
  f__law_fault : ∃ fd, Fun K "_law_fault" "_law_fault" s__law_fault (He.ga K "_law_fault") fd
  f__law_odd : ∃ fd, Fun K "_law_odd" "_law_odd" s__law_odd (He.ga K "_law_odd") fd
  f__law_few : ∃ fd, Fun K "_law_few" "_law_few" s__law_few (He.ga K "_law_few") fd
  f__law_swapped : ∃ fd, Fun K "_law_swapped" "_law_swapped" s__law_swapped (He.ga K "_law_swapped") fd
  f__law_mirror : ∃ fd, Fun K "_law_mirror" "_law_mirror" s__law_mirror (He.ga K "_law_mirror") fd
  f__law_changed : ∃ fd, Fun K "_law_changed" "_law_changed" s__law_changed (He.ga K "_law_changed") fd
  f__law_ask : ∃ fd, Fun K "_law_ask" "_law_ask" s__law_ask (He.ga K "_law_ask") fd
  f__law_like : ∃ fd, Fun K "_law_like" "_law_like" s__law_like (He.ga K "_law_like") fd
  f__law_right : ∃ fd, Fun K "_law_right" "_law_right" s__law_right (He.ga K "_law_right") fd
  f_law : ∃ fd, Fun K "law" "law" s_law (He.ga K "law") fd
  e_InvalidPaper : OkE P w K mg base "InvalidPaper" ["word", "at"]
  x_InvalidPaper : PySem.W.exmOne K (.ref (He.ga K "InvalidPaper")) (.ref (He.ga K "InvalidPaper")) = some true
  e_NotUsable : OkE P w K mg base "NotUsable" ["word", "at"]
  x_NotUsable : PySem.W.exmOne K (.ref (He.ga K "NotUsable")) (.ref (He.ga K "NotUsable")) = some true
  gc_HangError : mg "HangError" = some (.ref (He.ga K "HangError"))
  gc_InvalidPaper : mg "InvalidPaper" = some (.ref (He.ga K "InvalidPaper"))
  gc_NotUsable : mg "NotUsable" = some (.ref (He.ga K "NotUsable"))
  gc_PaperError : mg "PaperError" = some (.ref (He.ga K "PaperError"))
  gc_PlanError : mg "PlanError" = some (.ref (He.ga K "PlanError"))
  xc_InvalidPaper : ExcC K (He.ga K "InvalidPaper")
  ki_InvalidPaper_HangError : PySem.W.kitOne K (.ref (He.ga K "InvalidPaper")) (.ref (He.ga K "HangError")) = some true
  ki_InvalidPaper_NotUsable : PySem.W.kitOne K (.ref (He.ga K "InvalidPaper")) (.ref (He.ga K "NotUsable")) = some false
  ki_InvalidPaper_PaperError : PySem.W.kitOne K (.ref (He.ga K "InvalidPaper")) (.ref (He.ga K "PaperError")) = some true
  ki_InvalidPaper_PlanError : PySem.W.kitOne K (.ref (He.ga K "InvalidPaper")) (.ref (He.ga K "PlanError")) = some false
  ki_InvalidPaper_ValueError : PySem.W.kitOne K (.ref (He.ga K "InvalidPaper")) (.type "ValueError") = some true
variable {P : Program} {w : World} {K : PySem.W.Frag} {mg : Str → Option Value} {base : Heap}
theorem sc_after : FnScope N_after ["circle", "place"] (defScope s_after) := ⟨rfl, rfl, rfl, by decide +kernel, rfl, by decide +kernel, by decide +kernel⟩
theorem ok_after (Z : Ft P w K mg base) : OkD P w K mg base 1 "after" s_after ["circle", "place"] rf_after := okd Z.g_after Z.f_after sc_after (fun _ _ _ _ _ _ us hl => match us, hl with | [_, _], _ => rfl) (fun cdv A outer s H E hr =>
 (mss_one (ms_ret (me_ix ixd (me_var 0) (me_bin od_mod (me_bin od_add (me_idx (me_var 0) (me_var 1)) me_int) (me_callB cd_len (ma_cons (me_var 0) ma_nil) Z.fr_len))))))
theorem oks_after (Z : Ft P w K mg base) : OkD P w K mg base 1 "after" s_after ["circle", "place"] sp_after := (ok_after Z).spec sim_after
theorem sc_ahead : FnScope N_ahead ["circle", "place"] (defScope s_ahead) := ⟨rfl, rfl, rfl, by decide +kernel, rfl, by decide +kernel, by decide +kernel⟩
theorem ok_ahead (Z : Ft P w K mg base) : OkD P w K mg base 1 "ahead" s_ahead ["circle", "place"] rf_ahead := okd Z.g_ahead Z.f_ahead sc_ahead (fun _ _ _ _ _ _ us hl => match us, hl with | [_, _], _ => rfl) (fun cdv A outer s H E hr =>
 (mss_one (ms_ret (me_ix ixd (me_var 0) (me_bin od_sub (me_idx (me_var 0) (me_var 1)) me_int)))))
theorem oks_ahead (Z : Ft P w K mg base) : OkD P w K mg base 1 "ahead" s_ahead ["circle", "place"] sp_ahead := (ok_ahead Z).spec sim_ahead
theorem sc_row_from : FnScope N_row_from ["circles", "side", "first"] (defScope s_row_from) := ⟨rfl, rfl, rfl, by decide +kernel, rfl, by decide +kernel, by decide +kernel⟩
theorem ok_row_from (Z : Ft P w K mg base) : OkD P w K mg base 2 "row_from" s_row_from ["circles", "side", "first"] rf_row_from := okd Z.g_row_from Z.f_row_from sc_row_from (fun _ _ _ _ _ _ us hl => match us, hl with | [_, _, _], _ => rfl) (fun cdv A outer s H E hr =>
 (mss_cons (ms_set 3 (me_lst (ma_cons (me_var 2) ma_nil)))
 (mss_cons (ms_set 4 (me_fn (oks_ahead Z) (hr.mono (by decide)) (ma_cons (me_ix ixd (me_var 0) (me_var 2)) (ma_cons (me_var 1) ma_nil))))
 (mss_cons (ms_while (mt_cmp od_ge (me_var 4) me_int)
 (mss_cons (ms_expr (me_bm F.slot_list_append rfl md_append (me_var 3) (ma_cons (me_var 4) ma_nil)))
 (mss_one (ms_set 4 (me_fn (oks_ahead Z) (hr.mono (by decide)) (ma_cons (me_ix ixd (me_var 0) (me_var 4)) (ma_cons (me_var 1) ma_nil)))))))
 (mss_one (ms_ret (me_callTy cd_tuple (ma_cons (me_var 3) ma_nil) Z.fr_tuple)))))))
theorem oks_row_from (Z : Ft P w K mg base) : OkD P w K mg base 2 "row_from" s_row_from ["circles", "side", "first"] sp_row_from := (ok_row_from Z).spec sim_row_from
theorem sc_is_integer : FnScope N_is_integer ["thing"] (defScope s_is_integer) := ⟨rfl, rfl, rfl, by decide +kernel, rfl, by decide +kernel, by decide +kernel⟩
theorem ok_is_integer (Z : Ft P w K mg base) : OkD P w K mg base 1 "is_integer" s_is_integer ["thing"] rf_is_integer := okd Z.g_is_integer Z.f_is_integer sc_is_integer (fun _ _ _ _ _ _ us hl => match us, hl with | [_], _ => rfl) (fun cdv A outer s H E hr =>
 (mss_one (ms_ret (me_and (me_isi (T := "int") (me_var 0) Z.fr_isinstance Z.fr_int) (me_one (me_not (me_isi (T := "bool") (me_var 0) Z.fr_isinstance Z.fr_bool)))))))
theorem oks_is_integer (Z : Ft P w K mg base) : OkD P w K mg base 1 "is_integer" s_is_integer ["thing"] sp_is_integer := (ok_is_integer Z).spec sim_is_integer
theorem sc__need_side : FnScope N__need_side ["side"] (defScope s__need_side) := ⟨rfl, rfl, rfl, by decide +kernel, rfl, by decide +kernel, by decide +kernel⟩
theorem ok__need_side (Z : Ft P w K mg base) : OkD P w K mg base 3 "_need_side" s__need_side ["side"] rf__need_side := okd Z.g__need_side Z.f__need_side sc__need_side (fun _ _ _ _ _ _ us hl => match us, hl with | [_], _ => rfl) (fun cdv A outer s H E hr =>
 (mss_one (ms_if (mw_pt (mw_or (mt_not (mt_val (me_fn (oks_is_integer Z) (hr.mono (by decide)) (ma_cons (me_var 0) ma_nil)))) (mw_or1 (mt_not (mt_chain od_le od_le (me_un ud_neg me_int) (me_var 0) (me_un ud_neg me_int))))))
 (mss_one (ms_err Z.e_NotUsable (hr.mono (by decide)) (ma_cons me_str (ma_cons (me_un ud_neg me_int) ma_nil))))
 mss_nil)))
theorem oks__need_side (Z : Ft P w K mg base) : OkD P w K mg base 3 "_need_side" s__need_side ["side"] sp__need_side := (ok__need_side Z).spec sim__need_side
theorem sc_side_after : FnScope N_side_after ["side"] (defScope s_side_after) := ⟨rfl, rfl, rfl, by decide +kernel, rfl, by decide +kernel, by decide +kernel⟩
theorem ok_side_after (Z : Ft P w K mg base) : OkD P w K mg base 4 "side_after" s_side_after ["side"] rf_side_after := okd Z.g_side_after Z.f_side_after sc_side_after (fun _ _ _ _ _ _ us hl => match us, hl with | [_], _ => rfl) (fun cdv A outer s H E hr =>
 (mss_cons (ms_expr (me_fn (oks__need_side Z) (hr.mono (by decide)) (ma_cons (me_var 0) ma_nil)))
 (mss_one (ms_ret (me_if (mt_cmp (od_eq (Room.u64 hr)) (me_var 0) (me_un ud_neg me_int)) (me_un ud_neg me_int) (me_bin od_add (me_var 0) me_int))))))
theorem oks_side_after (Z : Ft P w K mg base) : OkD P w K mg base 4 "side_after" s_side_after ["side"] sp_side_after := (ok_side_after Z).spec sim_side_after
theorem sc_is_place : FnScope N_is_place ["many", "thing"] (defScope s_is_place) := ⟨rfl, rfl, rfl, by decide +kernel, rfl, by decide +kernel, by decide +kernel⟩
theorem ok_is_place (Z : Ft P w K mg base) : OkD P w K mg base 3 "is_place" s_is_place ["many", "thing"] rf_is_place := okd Z.g_is_place Z.f_is_place sc_is_place (fun _ _ _ _ _ _ us hl => match us, hl with | [_, _], _ => rfl) (fun cdv A outer s H E hr =>
 (mss_cons (ms_if (mw_pt (mw_or (mt_not (mt_val (me_fn (oks_is_integer Z) (hr.mono (by decide)) (ma_cons (me_var 0) ma_nil)))) (mw_or1 (mt_cmp od_lt (me_var 0) me_int))))
 (mss_one (ms_err Z.e_NotUsable (hr.mono (by decide)) (ma_cons me_str (ma_cons (me_un ud_neg me_int) ma_nil))))
 mss_nil)
 (mss_one (ms_ret (me_and (me_fn (oks_is_integer Z) (hr.mono (by decide)) (ma_cons (me_var 1) ma_nil)) (me_one (me_chain od_le od_lt (me_un ud_neg me_int) (me_var 1) (me_var 0))))))))
theorem oks_is_place (Z : Ft P w K mg base) : OkD P w K mg base 3 "is_place" s_is_place ["many", "thing"] sp_is_place := (ok_is_place Z).spec sim_is_place
theorem sc__is_circle : FnScope N__is_circle ["many", "picture", "circle"] (defScope s__is_circle) := ⟨rfl, rfl, rfl, by decide +kernel, rfl, by decide +kernel, by decide +kernel⟩
theorem ok__is_circle (Z : Ft P w K mg base) : OkD P w K mg base 4 "_is_circle" s__is_circle ["many", "picture", "circle"] rf__is_circle := okd Z.g__is_circle Z.f__is_circle sc__is_circle (fun _ _ _ _ _ _ us hl => match us, hl with | [_, _, _], _ => rfl) (fun cdv A outer s H E hr =>
 (mss_cons (ms_if (mw_pt (mw_or (mt_not (mt_val (me_isi (T := "tuple") (me_var 2) Z.fr_isinstance Z.fr_tuple))) (mw_or1 (mt_cmp od_lt (me_callB cd_len (ma_cons (me_var 2) ma_nil) Z.fr_len) me_int))))
 (mss_one (ms_ret me_bl))
 mss_nil)
 (mss_cons (ms_if (mt_not (mt_val (me_callB (cd_all rfl) (ma_cons (me_lc (own := [("place", 3)]) (mi_seq (me_var 2)) (blkOk_by (N := N__is_circle) (sc := defScope s__is_circle) (by decide +kernel)) (fun _ _ _ _ _ => (mg_name 3)) (fun _ _ _ _ _ => mts_nil) (fun _ _ _ _ _ => (me_fn (oks_is_place Z) (hr.mono (by decide)) (ma_cons (me_var 0) (ma_cons (me_var 3) ma_nil)))) (by decide)) ma_nil) Z.fr_all)))
 (mss_one (ms_ret me_bl))
 mss_nil)
 (mss_cons (ms_if (mw_pt (mw_or (mt_cmp od_in (me_var 1) (me_var 2)) (mw_or1 (mt_cmp (od_ne (Room.u64 hr)) (me_num (me_var 2) Z.fr_len Z.fr_set) (me_callB cd_len (ma_cons (me_var 2) ma_nil) Z.fr_len)))))
 (mss_one (ms_ret me_bl))
 mss_nil)
 (mss_one (ms_ret (me_cmp (od_eq (Room.u64 hr)) (me_ix ixd (me_var 2) me_int) (me_callB (cd_min rfl (Room.u64 hr)) (ma_cons (me_var 2) ma_nil) Z.fr_min))))))))
theorem oks__is_circle (Z : Ft P w K mg base) : OkD P w K mg base 4 "_is_circle" s__is_circle ["many", "picture", "circle"] sp__is_circle := (ok__is_circle Z).spec sim__is_circle
theorem sc__check_ties : FnScope N__check_ties ["circles"] (defScope s__check_ties) := ⟨rfl, rfl, rfl, by decide +kernel, rfl, by decide +kernel, by decide +kernel⟩
theorem ok__check_ties (Z : Ft P w K mg base) : OkD P w K mg base 3 "_check_ties" s__check_ties ["circles"] rf__check_ties := okd Z.g__check_ties Z.f__check_ties sc__check_ties (fun _ _ _ _ _ _ us hl => match us, hl with | [_], _ => rfl) (fun cdv A outer s H E hr =>
 (mss_one (ms_for (mi_enum (ma_cons (me_var 0) ma_nil) Z.fr_enumerate) (mg_tup (mgs_cons (mg_name 1) (mgs_cons (mg_name 2) mgs_nil)))
 (mss_one (ms_for (mi_seq (me_var 2)) (mg_name 3)
 (mss_one (ms_if (mw_pt (mw_and (mt_cmp od_ge (me_var 3) me_int) (mw_and1 (mt_cmp od_notIn (me_var 1) (me_ix ixd (me_var 0) (me_var 3))))))
 (mss_one (ms_err Z.e_InvalidPaper (hr.mono (by decide)) (ma_cons me_str (ma_cons (me_tup (ma_cons (me_var 1) (ma_cons (me_var 3) ma_nil))) ma_nil))))
 mss_nil)))))))
theorem oks__check_ties (Z : Ft P w K mg base) : OkD P w K mg base 3 "_check_ties" s__check_ties ["circles"] sp__check_ties := (ok__check_ties Z).spec sim__check_ties
theorem sc__closes : FnScope N__closes ["circles", "picture", "place", "later"] (defScope s__closes) := ⟨rfl, rfl, rfl, by decide +kernel, rfl, by decide +kernel, by decide +kernel⟩
theorem ok__closes (Z : Ft P w K mg base) : OkD P w K mg base 5 "_closes" s__closes ["circles", "picture", "place", "later"] rf__closes := okd Z.g__closes Z.f__closes sc__closes (fun _ _ _ _ _ _ us hl => match us, hl with | [_, _, _, _], _ => rfl) (fun cdv A outer s H E hr =>
 (mss_cons (ms_if (mw_pt (mw_and (mt_cmp od_lt (me_var 2) me_int) (mw_and1 (mt_cmp od_lt (me_var 3) me_int))))
 (mss_one (ms_ret (me_cmp (od_eq (Room.u64 hr)) (me_var 3) (me_fn (oks_side_after Z) (hr.mono (by decide)) (ma_cons (me_var 2) ma_nil)))))
 mss_nil)
 (mss_cons (ms_if (mw_pt (mw_and (mt_cmp od_ge (me_var 2) me_int) (mw_and1 (mt_cmp (od_ne (Room.u64 hr)) (me_fn (oks_ahead Z) (hr.mono (by decide)) (ma_cons (me_ix ixd (me_var 0) (me_var 2)) (ma_cons (me_var 1) ma_nil))) (me_var 3)))))
 (mss_one (ms_ret me_bl))
 mss_nil)
 (mss_one (ms_ret (me_or (me_cmp od_lt (me_var 3) me_int) (me_one (me_cmp (od_eq (Room.u64 hr)) (me_fn (oks_after Z) (hr.mono (by decide)) (ma_cons (me_ix ixd (me_var 0) (me_var 3)) (ma_cons (me_var 1) ma_nil))) (me_var 2)))))))))
theorem oks__closes (Z : Ft P w K mg base) : OkD P w K mg base 5 "_closes" s__closes ["circles", "picture", "place", "later"] sp__closes := (ok__closes Z).spec sim__closes
theorem sc__check_faces : FnScope N__check_faces ["circles"] (defScope s__check_faces) := ⟨rfl, rfl, rfl, by decide +kernel, rfl, by decide +kernel, by decide +kernel⟩
theorem ok__check_faces (Z : Ft P w K mg base) : OkD P w K mg base 6 "_check_faces" s__check_faces ["circles"] rf__check_faces := okd Z.g__check_faces Z.f__check_faces sc__check_faces (fun _ _ _ _ _ _ us hl => match us, hl with | [_], _ => rfl) (fun cdv A outer s H E hr =>
 (mss_one (ms_for (mi_enum (ma_cons (me_var 0) ma_nil) Z.fr_enumerate) (mg_tup (mgs_cons (mg_name 1) (mgs_cons (mg_name 2) mgs_nil)))
 (mss_one (ms_for (mi_seq (me_var 2)) (mg_name 3)
 (mss_one (ms_if (mt_not (mt_val (me_fn (oks__closes Z) (hr.mono (by decide)) (ma_cons (me_var 0) (ma_cons (me_var 1) (ma_cons (me_var 3) (ma_cons (me_fn (oks_after Z) (hr.mono (by decide)) (ma_cons (me_var 2) (ma_cons (me_var 3) ma_nil))) ma_nil)))))))
 (mss_one (ms_err Z.e_InvalidPaper (hr.mono (by decide)) (ma_cons me_str (ma_cons (me_tup (ma_cons (me_var 1) (ma_cons (me_var 3) ma_nil))) ma_nil))))
 mss_nil)))))))
theorem oks__check_faces (Z : Ft P w K mg base) : OkD P w K mg base 6 "_check_faces" s__check_faces ["circles"] sp__check_faces := (ok__check_faces Z).spec sim__check_faces
theorem sc__has_row : FnScope N__has_row ["circles", "side"] (defScope s__has_row) := ⟨rfl, rfl, rfl, by decide +kernel, rfl, by decide +kernel, by decide +kernel⟩
theorem ok__has_row (Z : Ft P w K mg base) : OkD P w K mg base 5 "_has_row" s__has_row ["circles", "side"] rf__has_row := okd Z.g__has_row Z.f__has_row sc__has_row (fun _ _ _ _ _ _ us hl => match us, hl with | [_, _], _ => rfl) (fun cdv A outer s H E hr =>
 (mss_cons (ms_setLc 2 (own := [("picture", 3), ("circle", 4)]) (mi_enum (ma_cons (me_var 0) ma_nil) Z.fr_enumerate) (blkOk_by (N := N__has_row) (sc := defScope s__has_row) (by decide +kernel)) (fun _ _ _ _ _ => (mg_tup (mgs_cons (mg_name 3) (mgs_cons (mg_name 4) mgs_nil)))) (fun _ _ _ _ _ => (mts_one (mt_cmp od_in (me_var 1) (me_var 4)))) (fun _ _ _ _ _ => (me_var 3)) (by decide))
 (mss_cons (ms_setLc 5 (own := [("picture", 3)]) (mi_seq (me_var 2)) (blkOk_by (N := N__has_row) (sc := defScope s__has_row) (by decide +kernel)) (fun _ _ _ _ _ => (mg_name 3)) (fun _ _ _ _ _ => (mts_one (mt_cmp (od_eq (Room.u64 hr)) (me_fn (oks_after Z) (hr.mono (by decide)) (ma_cons (me_ix ixd (me_var 0) (me_var 3)) (ma_cons (me_var 1) ma_nil))) (me_fn (oks_side_after Z) (hr.mono (by decide)) (ma_cons (me_var 1) ma_nil))))) (fun _ _ _ _ _ => (me_var 3)) (by decide))
 (mss_cons (ms_if (mt_cmp (od_eq (Room.u64 hr)) (me_callB cd_len (ma_cons (me_var 5) ma_nil) Z.fr_len) me_int)
 (mss_one (ms_ret me_bl))
 mss_nil)
 (mss_one (ms_ret (me_cmp (od_eq (Room.u64 hr)) (me_callB cd_len (ma_cons (me_fn (oks_row_from Z) (hr.mono (by decide)) (ma_cons (me_var 0) (ma_cons (me_var 1) (ma_cons (me_ix ixd (me_var 5) me_int) ma_nil)))) ma_nil) Z.fr_len) (me_callB cd_len (ma_cons (me_var 2) ma_nil) Z.fr_len))))))))
theorem oks__has_row (Z : Ft P w K mg base) : OkD P w K mg base 5 "_has_row" s__has_row ["circles", "side"] sp__has_row := (ok__has_row Z).spec sim__has_row
theorem sc__is_whole : FnScope N__is_whole ["circles"] (defScope s__is_whole) := ⟨rfl, rfl, rfl, by decide +kernel, rfl, by decide +kernel, by decide +kernel⟩
theorem ok__is_whole (Z : Ft P w K mg base) : OkD P w K mg base 1 "_is_whole" s__is_whole ["circles"] rf__is_whole := okd Z.g__is_whole Z.f__is_whole sc__is_whole (fun _ _ _ _ _ _ us hl => match us, hl with | [_], _ => rfl) (fun cdv A outer s H E hr =>
 (mss_cons (ms_set 1 (me_lst (ma_cons me_int ma_nil)))
 (mss_cons (ms_set 2 me_int)
 (mss_cons (ms_while (mt_cmp od_lt (me_var 2) (me_callB cd_len (ma_cons (me_var 1) ma_nil) Z.fr_len))
 (mss_cons (ms_set 3 (me_ix ixd (me_var 0) (me_ix ixd (me_var 1) (me_var 2))))
 (mss_cons (ms_for (mi_seq (me_var 3)) (mg_name 4)
 (mss_one (ms_if (mw_pt (mw_and (mt_cmp od_ge (me_var 4) me_int) (mw_and1 (mt_cmp od_notIn (me_var 4) (me_var 1)))))
 (mss_one (ms_expr (me_bm F.slot_list_append rfl md_append (me_var 1) (ma_cons (me_var 4) ma_nil))))
 mss_nil)))
 (mss_one (ms_aug 2 id_add me_int)))))
 (mss_one (ms_ret (me_cmp (od_eq (Room.u64 hr)) (me_callB cd_len (ma_cons (me_var 1) ma_nil) Z.fr_len) (me_callB cd_len (ma_cons (me_var 0) ma_nil) Z.fr_len))))))))
theorem oks__is_whole (Z : Ft P w K mg base) : OkD P w K mg base 1 "_is_whole" s__is_whole ["circles"] sp__is_whole := (ok__is_whole Z).spec sim__is_whole
theorem sc_lets_plan : FnScope N_lets_plan ["thing"] (defScope s_lets_plan) := ⟨rfl, rfl, rfl, by decide +kernel, rfl, by decide +kernel, by decide +kernel⟩
theorem ok_lets_plan (Z : Ft P w K mg base) : OkD P w K mg base 7 "lets_plan" s_lets_plan ["thing"] rf_lets_plan := okd Z.g_lets_plan Z.f_lets_plan sc_lets_plan (fun _ _ _ _ _ _ us hl => match us, hl with | [_], _ => rfl) (fun cdv A outer s H E hr =>
 (mss_cons (ms_if (mw_pt (mw_or (mt_not (mt_val (me_isi (T := "tuple") (me_var 0) Z.fr_isinstance Z.fr_tuple))) (mw_or1 (mt_cmp (od_eq (Room.u64 hr)) (me_callB cd_len (ma_cons (me_var 0) ma_nil) Z.fr_len) me_int))))
 (mss_one (ms_err Z.e_InvalidPaper (hr.mono (by decide)) (ma_cons me_str (ma_cons (me_un ud_neg me_int) ma_nil))))
 mss_nil)
 (mss_cons (ms_set 1 (me_callB cd_len (ma_cons (me_var 0) ma_nil) Z.fr_len))
 (mss_cons (ms_for (mi_enum (ma_cons (me_var 0) ma_nil) Z.fr_enumerate) (mg_tup (mgs_cons (mg_name 2) (mgs_cons (mg_name 3) mgs_nil)))
 (mss_one (ms_if (mt_not (mt_val (me_fn (oks__is_circle Z) (hr.mono (by decide)) (ma_cons (me_var 1) (ma_cons (me_var 2) (ma_cons (me_var 3) ma_nil))))))
 (mss_one (ms_err Z.e_InvalidPaper (hr.mono (by decide)) (ma_cons me_str (ma_cons (me_var 2) ma_nil))))
 mss_nil)))
 (mss_cons (ms_expr (me_fn (oks__check_ties Z) (hr.mono (by decide)) (ma_cons (me_var 0) ma_nil)))
 (mss_cons (ms_expr (me_fn (oks__check_faces Z) (hr.mono (by decide)) (ma_cons (me_var 0) ma_nil)))
 (mss_cons (ms_for (mi_seq (me_tup (ma_cons (me_un ud_neg me_int) (ma_cons (me_un ud_neg me_int) (ma_cons (me_un ud_neg me_int) (ma_cons (me_un ud_neg me_int) ma_nil)))))) (mg_name 4)
 (mss_one (ms_if (mt_not (mt_val (me_fn (oks__has_row Z) (hr.mono (by decide)) (ma_cons (me_var 0) (ma_cons (me_var 4) ma_nil)))))
 (mss_one (ms_err Z.e_InvalidPaper (hr.mono (by decide)) (ma_cons me_str (ma_cons (me_var 4) ma_nil))))
 mss_nil)))
 (mss_cons (ms_if (mt_not (mt_val (me_fn (oks__is_whole Z) (hr.mono (by decide)) (ma_cons (me_var 0) ma_nil))))
 (mss_one (ms_err Z.e_InvalidPaper (hr.mono (by decide)) (ma_cons me_str (ma_cons (me_un ud_neg me_int) ma_nil))))
 mss_nil)
 (mss_cons (ms_setLc2 5 (own := [("picture", 2), ("circle", 3), ("place", 6)]) (vs := [2, 3]) (vs1 := [6]) (mi_enum (ma_cons (me_var 0) ma_nil) Z.fr_enumerate) (blkOk_by (N := N_lets_plan) (sc := defScope s_lets_plan) (by decide +kernel)) (fun _ _ _ _ _ => (mg_tup (mgs_cons (mg_name 2) (mgs_cons (mg_name 3) mgs_nil)))) (fun _ _ _ _ _ => mts_nil) (fun _ _ _ _ _ => (miw_seq (me_var 3))) (fun _ _ _ _ _ => (mg_name 6)) (fun _ _ _ _ _ => (mts_one (mt_cmp od_lt (me_var 6) (me_var 2)))) (fun _ _ _ _ _ => (me_var 6)) (by decide) (by decide))
 (mss_cons (ms_if (mt_cmp (od_ne (Room.u64 hr)) (me_callB cd_len (ma_cons (me_var 5) ma_nil) Z.fr_len) (me_bin od_add (me_bin od_mul me_int (me_var 1)) me_int))
 (mss_one (ms_err Z.e_InvalidPaper (hr.mono (by decide)) (ma_cons me_str (ma_cons (me_un ud_neg me_int) ma_nil))))
 mss_nil)
 (mss_one (ms_ret (me_var 1)))))))))))))
theorem oks_lets_plan (Z : Ft P w K mg base) : OkD P w K mg base 7 "lets_plan" s_lets_plan ["thing"] sp_lets_plan := (ok_lets_plan Z).spec sim_lets_plan
theorem sc_is_plan : FnScope N_is_plan ["thing"] (defScope s_is_plan) := ⟨rfl, rfl, rfl, by decide +kernel, rfl, by decide +kernel, by decide +kernel⟩
theorem ok_is_plan (Z : Ft P w K mg base) : OkD P w K mg base 8 "is_plan" s_is_plan ["thing"] rf_is_plan := okd Z.g_is_plan Z.f_is_plan sc_is_plan (fun _ _ _ _ _ _ us hl => match us, hl with | [_], _ => rfl) (fun cdv A outer s H E hr =>
 (mss_cons (ms_try rfl (dec1_ok Z.x_InvalidPaper Z.e_InvalidPaper.gm) ⟨by rfl, by decide, .inl Z.e_InvalidPaper.gm⟩ (fun W pn xe tk ow => (mss_one (ms_expr (me_fn (oks_lets_plan Z) (hr.mono (by decide)) (ma_cons (me_var 0) ma_nil))))) (fun ad oe cls dx pn hz hf => (mss_one (ms_ret me_bl))))
 (mss_one (ms_ret me_bl))))
theorem oks_is_plan (Z : Ft P w K mg base) : OkD P w K mg base 8 "is_plan" s_is_plan ["thing"] sp_is_plan := (ok_is_plan Z).spec sim_is_plan
theorem sc__law_mixed : FnScope N__law_mixed ["_law_cell", "_law_tick"] (defScope s__law_mixed) := ⟨rfl, rfl, rfl, by decide +kernel, rfl, by decide +kernel, by decide +kernel⟩
theorem ok__law_mixed (Z : Ft P w K mg base) : OkD P w K mg base 1 "_law_mixed" s__law_mixed ["_law_cell", "_law_tick"] rf__law_mixed := okd Z.g__law_mixed Z.f__law_mixed sc__law_mixed (fun _ _ _ _ _ _ us hl => match us, hl with | [_, _], _ => rfl) (fun cdv A outer s H E hr =>
 (mss_cons (ms_set 2 (me_bin od_mod (me_callTy cd_int (ma_cons (me_bin od_add (me_bin od_add (me_bin od_mul (me_var 0) me_int) (me_bin od_mul (me_var 1) me_int)) me_int) ma_nil) Z.fr_int) me_int))
 (mss_cons (ms_set 3 (me_bin od_mod (me_callTy cd_int (ma_cons (me_bin od_add (me_bin od_add (me_bin od_mul (me_var 2) (me_var 2)) (me_bin od_mul (me_var 1) me_int)) me_int) ma_nil) Z.fr_int) me_int))
 (mss_cons (ms_set 4 (me_bin od_mod (me_callTy cd_int (ma_cons (me_bin od_add (me_bin od_add (me_bin od_div (me_bin od_mul (me_var 3) (me_var 3)) me_int) (me_bin od_mul (me_var 3) me_int)) (me_var 1)) ma_nil) Z.fr_int) me_int))
 (mss_one (ms_ret (me_bin od_div (me_var 4) me_int)))))))
theorem sc__law_pool : FnScope N__law_pool ["_law_script"] (defScope s__law_pool) := ⟨rfl, rfl, rfl, by decide +kernel, rfl, by decide +kernel, by decide +kernel⟩
theorem ok__law_pool (Z : Ft P w K mg base) : OkD P w K mg base 1 "_law_pool" s__law_pool ["_law_script"] rf__law_pool := okd Z.g__law_pool Z.f__law_pool sc__law_pool (fun _ _ _ _ _ _ us hl => match us, hl with | [_], _ => rfl) (fun cdv A outer s H E hr =>
 (mss_cons (ms_set 1 me_int)
 (mss_cons (ms_for (mi_seq (me_var 0)) (mg_name 2)
 (mss_one (ms_set 1 (me_bin od_mod (me_callTy cd_int (ma_cons (me_bin od_add (me_bin od_add (me_bin od_mul (me_var 1) me_int) (me_bin od_mul (me_var 2) me_int)) me_int) ma_nil) Z.fr_int) me_int))))
 (mss_one (ms_ret (me_lst (ma_cons (me_callTy cd_list (ma_cons (me_var 0) ma_nil) Z.fr_list) (ma_cons me_int (ma_cons me_int (ma_cons (me_var 1) (ma_cons (me_callB cd_len (ma_cons (me_var 0) ma_nil) Z.fr_len) ma_nil)))))))))))
theorem sc__law_take : FnScope N__law_take ["_law_pool_here", "_law_size"] (defScope s__law_take) := ⟨rfl, rfl, rfl, by decide +kernel, rfl, by decide +kernel, by decide +kernel⟩
theorem ok__law_take (Z : Ft P w K mg base) : OkD P w K mg base 2 "_law_take" s__law_take ["_law_pool_here", "_law_size"] rf__law_take := okd Z.g__law_take Z.f__law_take sc__law_take (fun _ _ _ _ _ _ us hl => match us, hl with | [_, _], _ => rfl) (fun cdv A outer s H E hr =>
 (mss_cons (ms_if (mt_cmp (od_eq (Room.u64 hr)) (me_ix ixd (me_var 0) me_int) me_int)
 (mss_one (ms_ret me_int))
 mss_nil)
 (mss_cons (ms_if (mw_pt (mw_and (mt_cmp (od_eq (Room.u64 hr)) (me_ix ixd (me_var 0) me_int) me_int) (mw_and1 (mt_cmp od_gt (me_callB cd_len (ma_cons (me_ix ixd (me_var 0) me_int) ma_nil) Z.fr_len) me_int))))
 (mss_cons (ms_set 2 (me_callB cd_abs (ma_cons (me_bm F.slot_list_pop rfl md_popAt (me_ix ixd (me_var 0) me_int) (ma_cons me_int ma_nil)) ma_nil) Z.fr_abs))
 (mss_cons (ms_if (mt_cmp od_lt (me_var 2) (me_bin od_pow me_int me_int))
 (mss_cons (ms_sub sd_list (me_bin od_add (me_ix ixd (me_var 0) me_int) me_int) (me_var 0) me_int)
 (mss_one (ms_ret (me_bin od_mod (me_callTy cd_int (ma_cons (me_fn (ok__law_mixed Z) (hr.mono (by decide)) (ma_cons (me_var 2) (ma_cons (me_ix ixd (me_var 0) me_int) ma_nil))) ma_nil) Z.fr_int) (me_var 1)))))
 mss_nil)
 (mss_one (ms_sub sd_list (me_bin od_mod (me_callTy cd_int (ma_cons (me_var 2) ma_nil) Z.fr_int) (me_bin od_mul (me_bin od_mul (me_bin od_pow me_int me_int) (me_bin od_pow me_int me_int)) (me_bin od_pow me_int me_int))) (me_var 0) me_int))))
 mss_nil)
 (mss_cons (ms_if (mt_cmp od_gt (me_ix ixd (me_var 0) me_int) me_int)
 (mss_cons (ms_set 3 (me_bin od_mod (me_callTy cd_int (ma_cons (me_ix ixd (me_var 0) me_int) ma_nil) Z.fr_int) (me_var 1)))
 (mss_cons (ms_sub sd_list (me_bin od_div (me_ix ixd (me_var 0) me_int) (me_var 1)) (me_var 0) me_int)
 (mss_one (ms_ret (me_var 3)))))
 mss_nil)
 (mss_cons (ms_sub sd_list (me_bin od_add (me_ix ixd (me_var 0) me_int) me_int) (me_var 0) me_int)
 (mss_one (ms_ret (me_bin od_mod (me_callTy cd_int (ma_cons (me_fn (ok__law_mixed Z) (hr.mono (by decide)) (ma_cons (me_ix ixd (me_var 0) me_int) (ma_cons (me_ix ixd (me_var 0) me_int) ma_nil))) ma_nil) Z.fr_int) (me_var 1)))))))))
theorem sc__law_told : FnScope N__law_told ["_law_rows_held"] (defScope s__law_told) := ⟨rfl, rfl, rfl, by decide +kernel, rfl, by decide +kernel, by decide +kernel⟩
theorem ok__law_told (Z : Ft P w K mg base) : OkD P w K mg base 1 "_law_told" s__law_told ["_law_rows_held"] rf__law_told := okd Z.g__law_told Z.f__law_told sc__law_told (fun _ _ _ _ _ _ us hl => match us, hl with | [_], _ => rfl) (fun cdv A outer s H E hr =>
 (mss_cons (ms_set 1 (me_lst ma_nil))
 (mss_cons (ms_for (mi_seq (me_var 0)) (mg_name 2)
 (mss_cons (ms_set 3 (me_idx (me_var 2) (me_callB (cd_min rfl (Room.u64 hr)) (ma_cons (me_var 2) ma_nil) Z.fr_min)))
 (mss_one (ms_expr (me_bm F.slot_list_append rfl md_append (me_var 1) (ma_cons (me_callTy cd_tuple (ma_cons (me_bin od_add (me_slL (me_var 2) (me_var 3)) (me_slH (me_var 2) (me_var 3))) ma_nil) Z.fr_tuple) ma_nil))))))
 (mss_one (ms_ret (me_callTy cd_tuple (ma_cons (me_var 1) ma_nil) Z.fr_tuple))))))
theorem sc__law_part : FnScope N__law_part ["_law_rows_held", "_law_old", "_law_first", "_law_last"] (defScope s__law_part) := ⟨rfl, rfl, rfl, by decide +kernel, rfl, by decide +kernel, by decide +kernel⟩
theorem ok__law_part (Z : Ft P w K mg base) : OkD P w K mg base 1 "_law_part" s__law_part ["_law_rows_held", "_law_old", "_law_first", "_law_last"] rf__law_part := okd Z.g__law_part Z.f__law_part sc__law_part (fun _ _ _ _ _ _ us hl => match us, hl with | [_, _, _, _], _ => rfl) (fun cdv A outer s H E hr =>
 (mss_cons (ms_set 4 (me_ix ixd (me_var 0) (me_var 1)))
 (mss_cons (ms_set 5 (me_idx (me_var 4) (me_var 2)))
 (mss_cons (ms_set 6 (me_bin od_add (me_slL (me_var 4) (me_var 5)) (me_slH (me_var 4) (me_var 5))))
 (mss_cons (ms_set 7 (me_idx (me_var 6) (me_var 3)))
 (mss_cons (ms_set 8 (me_callB cd_len (ma_cons (me_var 0) ma_nil) Z.fr_len))
 (mss_cons (ms_for (mi_seq (me_slB (me_var 6) me_int (me_var 7))) (mg_name 9)
 (mss_one (ms_if (mt_cmp od_ge (me_var 9) me_int)
 (mss_one (ms_sub sd_list (me_var 8) (me_ix ixd (me_var 0) (me_var 9)) (me_idx (me_ix ixd (me_var 0) (me_var 9)) (me_var 1))))
 mss_nil)))
 (mss_cons (ms_if (mt_cmp od_ge (me_var 2) me_int)
 (mss_one (ms_expr (me_bm F.slot_list_insert rfl md_insert (me_ix ixd (me_var 0) (me_var 2)) (ma_cons (me_idx (me_ix ixd (me_var 0) (me_var 2)) (me_var 1)) (ma_cons (me_var 8) ma_nil)))))
 mss_nil)
 (mss_cons (ms_if (mt_cmp od_ge (me_var 3) me_int)
 (mss_one (ms_expr (me_bm F.slot_list_insert rfl md_insert (me_ix ixd (me_var 0) (me_var 3)) (ma_cons (me_bin od_add (me_idx (me_ix ixd (me_var 0) (me_var 3)) (me_var 1)) me_int) (ma_cons (me_var 8) ma_nil)))))
 mss_nil)
 (mss_cons (ms_sub sd_list (me_bin od_add (me_slL (me_var 6) (me_var 7)) (me_lst (ma_cons (me_var 2) (ma_cons (me_var 8) ma_nil)))) (me_var 0) (me_var 1))
 (mss_one (ms_expr (me_bm F.slot_list_append rfl md_append (me_var 0) (ma_cons (me_bin od_add (me_slH (me_var 6) (me_bin od_add (me_var 7) me_int)) (me_lst (ma_cons (me_var 1) ma_nil))) ma_nil))))))))))))))
theorem sc__law_grow : FnScope N__law_grow ["_law_pool_here", "_law_rows_held", "_law_count"] (defScope s__law_grow) := ⟨rfl, rfl, rfl, by decide +kernel, rfl, by decide +kernel, by decide +kernel⟩
theorem ok__law_grow (Z : Ft P w K mg base) : OkD P w K mg base 3 "_law_grow" s__law_grow ["_law_pool_here", "_law_rows_held", "_law_count"] rf__law_grow := okd Z.g__law_grow Z.f__law_grow sc__law_grow (fun _ _ _ _ _ _ us hl => match us, hl with | [_, _, _], _ => rfl) (fun cdv A outer s H E hr =>
 (mss_cons (ms_for (mi_range1 (ma_cons (me_var 2) ma_nil) Z.fr_range) (mg_name 3)
 (mss_cons (ms_set 4 (me_fn (ok__law_take Z) (hr.mono (by decide)) (ma_cons (me_var 0) (ma_cons (me_callB cd_len (ma_cons (me_var 1) ma_nil) Z.fr_len) ma_nil))))
 (mss_cons (ms_set 5 (me_ix ixd (me_var 1) (me_var 4)))
 (mss_cons (ms_set 6 (me_fn (ok__law_take Z) (hr.mono (by decide)) (ma_cons (me_var 0) (ma_cons (me_callB cd_len (ma_cons (me_var 5) ma_nil) Z.fr_len) ma_nil))))
 (mss_cons (ms_set 7 (me_bin od_add me_int (me_fn (ok__law_take Z) (hr.mono (by decide)) (ma_cons (me_var 0) (ma_cons (me_bin od_sub (me_callB cd_len (ma_cons (me_var 5) ma_nil) Z.fr_len) me_int) ma_nil)))))
 (mss_cons (ms_if (mt_cmp (od_eq (Room.u64 hr)) (me_fn (ok__law_take Z) (hr.mono (by decide)) (ma_cons (me_var 0) (ma_cons me_int ma_nil))) me_int)
 (mss_one (ms_set 7 me_int))
 mss_nil)
 (mss_one (ms_expr (me_fn (ok__law_part Z) (hr.mono (by decide)) (ma_cons (me_var 1) (ma_cons (me_var 4) (ma_cons (me_ix ixd (me_var 5) (me_var 6)) (ma_cons (me_ix ixd (me_var 5) (me_bin od_mod (me_callTy cd_int (ma_cons (me_bin od_add (me_var 6) (me_var 7)) ma_nil) Z.fr_int) (me_callB cd_len (ma_cons (me_var 5) ma_nil) Z.fr_len))) ma_nil)))))))))))))
 (mss_one (ms_ret (me_var 1)))))
theorem sc__law_start : FnScope N__law_start ["_law_pool_here"] (defScope s__law_start) := ⟨rfl, rfl, rfl, by decide +kernel, rfl, by decide +kernel, by decide +kernel⟩
theorem ok__law_start (Z : Ft P w K mg base) : OkD P w K mg base 3 "_law_start" s__law_start ["_law_pool_here"] rf__law_start := okd Z.g__law_start Z.f__law_start sc__law_start (fun _ _ _ _ _ _ us hl => match us, hl with | [_], _ => rfl) (fun cdv A outer s H E hr =>
 (mss_cons (ms_set 1 (me_fn (ok__law_take Z) (hr.mono (by decide)) (ma_cons (me_var 0) (ma_cons me_int ma_nil))))
 (mss_cons (ms_set 2 (me_lst (ma_cons (me_lst (ma_cons (me_un ud_neg me_int) (ma_cons (me_un ud_neg me_int) (ma_cons (me_un ud_neg me_int) (ma_cons (me_un ud_neg me_int) ma_nil))))) ma_nil)))
 (mss_cons (ms_if (mt_cmp (od_eq (Room.u64 hr)) (me_var 1) me_int)
 (mss_one (ms_ret (me_bin od_add (me_var 2) (me_lst (ma_cons (me_lst (ma_cons (me_un ud_neg me_int) (ma_cons (me_un ud_neg me_int) (ma_cons (me_un ud_neg me_int) (ma_cons (me_un ud_neg me_int) ma_nil))))) ma_nil)))))
 mss_nil)
 (mss_cons (ms_if (mw_pt (mw_or (mt_cmp (od_eq (Room.u64 hr)) (me_var 1) me_int) (mw_or1 (mt_cmp (od_eq (Room.u64 hr)) (me_var 1) me_int))))
 (mss_one (ms_ret (me_bin od_add (me_var 2) (me_lst (ma_cons (me_lst (ma_cons me_int (ma_cons me_int (ma_cons me_int ma_nil)))) (ma_cons (me_lst (ma_cons me_int (ma_cons me_int (ma_cons me_int ma_nil)))) (ma_cons (me_lst (ma_cons me_int (ma_cons me_int (ma_cons me_int ma_nil)))) (ma_cons (me_lst (ma_cons me_int (ma_cons me_int (ma_cons me_int ma_nil)))) ma_nil))))))))
 mss_nil)
 (mss_cons (ms_if (mw_pt (mw_or (mt_cmp (od_eq (Room.u64 hr)) (me_var 1) me_int) (mw_or1 (mt_cmp (od_eq (Room.u64 hr)) (me_var 1) me_int))))
 (mss_cons (ms_set 3 (me_bin od_sub (me_fn (ok__law_take Z) (hr.mono (by decide)) (ma_cons (me_var 0) (ma_cons me_int ma_nil))) me_int))
 (mss_one (ms_ret (me_bin od_add (me_var 2) (me_lst (ma_cons (me_lst (ma_cons (me_var 3) (ma_cons me_int (ma_cons me_int ma_nil)))) (ma_cons (me_lst (ma_cons (me_var 3) (ma_cons me_int (ma_cons me_int ma_nil)))) (ma_cons (me_lst (ma_cons (me_var 3) (ma_cons me_int (ma_cons me_int ma_nil)))) ma_nil))))))))
 mss_nil)
 (mss_cons (ms_if (mw_pt (mw_or (mt_cmp (od_eq (Room.u64 hr)) (me_var 1) me_int) (mw_or1 (mt_cmp (od_eq (Room.u64 hr)) (me_var 1) me_int))))
 (mss_cons (ms_set 4 (me_lst (ma_cons (me_lst (ma_cons (me_un ud_neg me_int) (ma_cons me_int (ma_cons me_int (ma_cons me_int (ma_cons me_int (ma_cons (me_un ud_neg me_int) (ma_cons (me_un ud_neg me_int) (ma_cons (me_un ud_neg me_int) ma_nil))))))))) (ma_cons (me_lst (ma_cons (me_un ud_neg me_int) (ma_cons me_int (ma_cons me_int (ma_cons (me_un ud_neg me_int) (ma_cons me_int (ma_cons me_int ma_nil))))))) (ma_cons (me_lst (ma_cons (me_un ud_neg me_int) (ma_cons (me_un ud_neg me_int) (ma_cons me_int (ma_cons me_int (ma_cons me_int (ma_cons me_int ma_nil))))))) ma_nil)))))
 (mss_one (ms_ret (me_bin od_add (me_var 4) (me_lst (ma_cons (me_lst (ma_cons (me_un ud_neg me_int) (ma_cons me_int (ma_cons (me_un ud_neg me_int) (ma_cons me_int (ma_cons me_int (ma_cons me_int ma_nil))))))) (ma_cons (me_lst (ma_cons (me_un ud_neg me_int) (ma_cons me_int (ma_cons me_int (ma_cons me_int (ma_cons (me_un ud_neg me_int) (ma_cons me_int ma_nil))))))) ma_nil)))))))
 mss_nil)
 (mss_cons (ms_if (mt_cmp (od_eq (Room.u64 hr)) (me_var 1) me_int)
 (mss_one (ms_ret (me_lst (ma_cons (me_lst (ma_cons me_int (ma_cons me_int (ma_cons me_int ma_nil)))) (ma_cons (me_lst (ma_cons me_int (ma_cons me_int (ma_cons me_int ma_nil)))) (ma_cons (me_lst (ma_cons me_int (ma_cons me_int (ma_cons me_int ma_nil)))) (ma_cons (me_lst (ma_cons me_int (ma_cons me_int (ma_cons me_int ma_nil)))) ma_nil)))))))
 mss_nil)
 (mss_cons (ms_if (mt_cmp (od_eq (Room.u64 hr)) (me_var 1) me_int)
 (mss_one (ms_ret (me_lst (ma_cons (me_lst (ma_cons (me_un ud_neg me_int) (ma_cons (me_un ud_neg me_int) (ma_cons me_int (ma_cons me_int (ma_cons me_int ma_nil)))))) (ma_cons (me_lst (ma_cons (me_un ud_neg me_int) (ma_cons (me_un ud_neg me_int) (ma_cons me_int (ma_cons me_int ma_nil))))) (ma_cons (me_lst (ma_cons (me_un ud_neg me_int) (ma_cons (me_un ud_neg me_int) (ma_cons me_int (ma_cons me_int (ma_cons me_int ma_nil)))))) (ma_cons (me_lst (ma_cons (me_un ud_neg me_int) (ma_cons me_int (ma_cons me_int (ma_cons (me_un ud_neg me_int) ma_nil))))) ma_nil)))))))
 mss_nil)
 (mss_cons (ms_if (mt_cmp (od_eq (Room.u64 hr)) (me_var 1) me_int)
 (mss_cons (ms_set 5 (me_lst (ma_cons (me_lst (ma_cons (me_un ud_neg me_int) (ma_cons (me_un ud_neg me_int) (ma_cons me_int (ma_cons me_int (ma_cons me_int ma_nil)))))) (ma_cons (me_lst (ma_cons (me_un ud_neg me_int) (ma_cons (me_un ud_neg me_int) (ma_cons me_int (ma_cons me_int (ma_cons me_int ma_nil)))))) (ma_cons (me_lst (ma_cons (me_un ud_neg me_int) (ma_cons (me_un ud_neg me_int) (ma_cons me_int (ma_cons me_int (ma_cons me_int ma_nil)))))) (ma_cons (me_lst (ma_cons (me_un ud_neg me_int) (ma_cons me_int (ma_cons me_int (ma_cons me_int (ma_cons (me_un ud_neg me_int) ma_nil)))))) ma_nil))))))
 (mss_one (ms_ret (me_bin od_add (me_var 5) (me_lst (ma_cons (me_lst (ma_cons me_int (ma_cons me_int (ma_cons me_int (ma_cons me_int ma_nil))))) ma_nil))))))
 mss_nil)
 (mss_cons (ms_if (mt_cmp (od_eq (Room.u64 hr)) (me_var 1) me_int)
 (mss_one (ms_ret (me_lst (ma_cons (me_lst (ma_cons (me_un ud_neg me_int) (ma_cons (me_un ud_neg me_int) (ma_cons (me_un ud_neg me_int) (ma_cons me_int (ma_cons me_int (ma_cons me_int ma_nil))))))) (ma_cons (me_lst (ma_cons (me_un ud_neg me_int) (ma_cons me_int (ma_cons me_int (ma_cons me_int (ma_cons (me_un ud_neg me_int) (ma_cons (me_un ud_neg me_int) ma_nil))))))) (ma_cons (me_lst (ma_cons (me_un ud_neg me_int) (ma_cons me_int (ma_cons me_int (ma_cons me_int ma_nil))))) (ma_cons (me_lst (ma_cons me_int (ma_cons me_int (ma_cons me_int (ma_cons me_int ma_nil))))) (ma_cons (me_lst (ma_cons (me_un ud_neg me_int) (ma_cons me_int (ma_cons me_int (ma_cons me_int ma_nil))))) ma_nil))))))))
 mss_nil)
 (mss_cons (ms_if (mt_cmp (od_eq (Room.u64 hr)) (me_var 1) me_int)
 (mss_one (ms_ret (me_lst (ma_cons (me_lst (ma_cons (me_un ud_neg me_int) (ma_cons me_int (ma_cons (me_un ud_neg me_int) (ma_cons (me_un ud_neg me_int) (ma_cons (me_un ud_neg me_int) ma_nil)))))) (ma_cons (me_lst (ma_cons (me_un ud_neg me_int) (ma_cons (me_un ud_neg me_int) (ma_cons me_int ma_nil)))) ma_nil)))))
 mss_nil)
 (mss_one (ms_ret (me_var 2)))))))))))))))
theorem sc__law_whole : FnScope N__law_whole ["_law_value"] (defScope s__law_whole) := ⟨rfl, rfl, rfl, by decide +kernel, rfl, by decide +kernel, by decide +kernel⟩
theorem ok__law_whole (Z : Ft P w K mg base) : OkD P w K mg base 1 "_law_whole" s__law_whole ["_law_value"] rf__law_whole := okd Z.g__law_whole Z.f__law_whole sc__law_whole (fun _ _ _ _ _ _ us hl => match us, hl with | [_], _ => rfl) (fun cdv A outer s H E hr =>
 (mss_one (ms_ret (me_and (me_isi (T := "int") (me_var 0) Z.fr_isinstance Z.fr_int) (me_one (me_not (me_isi (T := "bool") (me_var 0) Z.fr_isinstance Z.fr_bool)))))))
theorem oks__law_whole (Z : Ft P w K mg base) : OkD P w K mg base 1 "_law_whole" s__law_whole ["_law_value"] sp__law_whole := (ok__law_whole Z).spec sim__law_whole
theorem sc__law_circle : FnScope N__law_circle ["_law_circle_here", "_law_number", "_law_count"] (defScope s__law_circle) := ⟨rfl, rfl, rfl, by decide +kernel, rfl, by decide +kernel, by decide +kernel⟩
theorem ok__law_circle (Z : Ft P w K mg base) : OkD P w K mg base 2 "_law_circle" s__law_circle ["_law_circle_here", "_law_number", "_law_count"] rf__law_circle := okd Z.g__law_circle Z.f__law_circle sc__law_circle (fun _ _ _ _ _ _ us hl => match us, hl with | [_, _, _], _ => rfl) (fun cdv A outer s H E hr =>
 (mss_cons (ms_if (mw_pt (mw_or (mt_not (mt_val (me_isi (T := "tuple") (me_var 0) Z.fr_isinstance Z.fr_tuple))) (mw_or1 (mt_cmp od_lt (me_callB cd_len (ma_cons (me_var 0) ma_nil) Z.fr_len) me_int))))
 (mss_one (ms_ret me_bl))
 mss_nil)
 (mss_cons (ms_for (mi_range1 (ma_cons (me_callB cd_len (ma_cons (me_var 0) ma_nil) Z.fr_len) ma_nil) Z.fr_range) (mg_name 3)
 (mss_cons (ms_if (mw_pt (mw_or (mt_not (mt_val (me_fn (oks__law_whole Z) (hr.mono (by decide)) (ma_cons (me_ix ixd (me_var 0) (me_var 3)) ma_nil)))) (mw_or (mt_cmp od_lt (me_ix ixd (me_var 0) (me_var 3)) (me_un ud_neg me_int)) (mw_or (mt_cmp od_ge (me_ix ixd (me_var 0) (me_var 3)) (me_var 2)) (mw_or1 (mt_cmp (od_eq (Room.u64 hr)) (me_ix ixd (me_var 0) (me_var 3)) (me_var 1)))))))
 (mss_one (ms_ret me_bl))
 mss_nil)
 (mss_one (ms_if (mw_pt (mw_or (mt_cmp od_in (me_ix ixd (me_var 0) (me_var 3)) (me_slH (me_var 0) (me_var 3))) (mw_or1 (mt_cmp od_lt (me_ix ixd (me_var 0) (me_var 3)) (me_ix ixd (me_var 0) me_int)))))
 (mss_one (ms_ret me_bl))
 mss_nil))))
 (mss_one (ms_ret me_bl)))))
theorem oks__law_circle (Z : Ft P w K mg base) : OkD P w K mg base 2 "_law_circle" s__law_circle ["_law_circle_here", "_law_number", "_law_count"] sp__law_circle := (ok__law_circle Z).spec sim__law_circle
theorem sc__law_after : FnScope N__law_after ["_law_circle_here", "_law_part_here"] (defScope s__law_after) := ⟨rfl, rfl, rfl, by decide +kernel, rfl, by decide +kernel, by decide +kernel⟩
theorem ok__law_after (Z : Ft P w K mg base) : OkD P w K mg base 1 "_law_after" s__law_after ["_law_circle_here", "_law_part_here"] rf__law_after := okd Z.g__law_after Z.f__law_after sc__law_after (fun _ _ _ _ _ _ us hl => match us, hl with | [_, _], _ => rfl) (fun cdv A outer s H E hr =>
 (mss_one (ms_ret (me_ix ixd (me_var 0) (me_bin od_mod (me_callTy cd_int (ma_cons (me_bin od_add (me_idx (me_var 0) (me_var 1)) me_int) ma_nil) Z.fr_int) (me_callB cd_len (ma_cons (me_var 0) ma_nil) Z.fr_len))))))
theorem oks__law_after (Z : Ft P w K mg base) : OkD P w K mg base 1 "_law_after" s__law_after ["_law_circle_here", "_law_part_here"] sp__law_after := (ok__law_after Z).spec sim__law_after
theorem sc__law_ahead : FnScope N__law_ahead ["_law_circle_here", "_law_part_here"] (defScope s__law_ahead) := ⟨rfl, rfl, rfl, by decide +kernel, rfl, by decide +kernel, by decide +kernel⟩
theorem ok__law_ahead (Z : Ft P w K mg base) : OkD P w K mg base 1 "_law_ahead" s__law_ahead ["_law_circle_here", "_law_part_here"] rf__law_ahead := okd Z.g__law_ahead Z.f__law_ahead sc__law_ahead (fun _ _ _ _ _ _ us hl => match us, hl with | [_, _], _ => rfl) (fun cdv A outer s H E hr =>
 (mss_one (ms_ret (me_ix ixd (me_var 0) (me_bin od_sub (me_idx (me_var 0) (me_var 1)) me_int)))))
theorem oks__law_ahead (Z : Ft P w K mg base) : OkD P w K mg base 1 "_law_ahead" s__law_ahead ["_law_circle_here", "_law_part_here"] sp__law_ahead := (ok__law_ahead Z).spec sim__law_ahead
theorem sc__law_corner : FnScope N__law_corner ["_law_sheet", "_law_i", "_law_j", "_law_k"] (defScope s__law_corner) := ⟨rfl, rfl, rfl, by decide +kernel, rfl, by decide +kernel, by decide +kernel⟩
theorem ok__law_corner (Z : Ft P w K mg base) : OkD P w K mg base 2 "_law_corner" s__law_corner ["_law_sheet", "_law_i", "_law_j", "_law_k"] rf__law_corner := okd Z.g__law_corner Z.f__law_corner sc__law_corner (fun _ _ _ _ _ _ us hl => match us, hl with | [_, _, _, _], _ => rfl) (fun cdv A outer s H E hr =>
 (mss_cons (ms_if (mw_pt (mw_and (mt_cmp od_lt (me_var 2) me_int) (mw_and1 (mt_cmp od_lt (me_var 3) me_int))))
 (mss_one (ms_ret (me_cmp (od_eq (Room.u64 hr)) (me_var 3) (me_ix ixd (me_lst (ma_cons (me_un ud_neg me_int) (ma_cons (me_un ud_neg me_int) (ma_cons (me_un ud_neg me_int) (ma_cons (me_un ud_neg me_int) ma_nil))))) (me_bin od_add (me_var 2) me_int)))))
 mss_nil)
 (mss_cons (ms_if (mt_cmp od_ge (me_var 2) me_int)
 (mss_one (ms_if (mw_pt (mw_or (mt_cmp od_notIn (me_var 3) (me_ix ixd (me_var 0) (me_var 2))) (mw_or1 (mt_cmp (od_ne (Room.u64 hr)) (me_fn (oks__law_after Z) (hr.mono (by decide)) (ma_cons (me_ix ixd (me_var 0) (me_var 2)) (ma_cons (me_var 3) ma_nil))) (me_var 1)))))
 (mss_one (ms_ret me_bl))
 mss_nil))
 mss_nil)
 (mss_cons (ms_if (mt_cmp od_ge (me_var 3) me_int)
 (mss_one (ms_ret (me_cmp (od_eq (Room.u64 hr)) (me_fn (oks__law_after Z) (hr.mono (by decide)) (ma_cons (me_ix ixd (me_var 0) (me_var 3)) (ma_cons (me_var 1) ma_nil))) (me_var 2))))
 mss_nil)
 (mss_one (ms_ret me_bl))))))
theorem oks__law_corner (Z : Ft P w K mg base) : OkD P w K mg base 2 "_law_corner" s__law_corner ["_law_sheet", "_law_i", "_law_j", "_law_k"] sp__law_corner := (ok__law_corner Z).spec sim__law_corner
theorem sc__law_edge : FnScope N__law_edge ["_law_sheet", "_law_edge_here"] (defScope s__law_edge) := ⟨rfl, rfl, rfl, by decide +kernel, rfl, by decide +kernel, by decide +kernel⟩
theorem ok__law_edge (Z : Ft P w K mg base) : OkD P w K mg base 2 "_law_edge" s__law_edge ["_law_sheet", "_law_edge_here"] rf__law_edge := okd Z.g__law_edge Z.f__law_edge sc__law_edge (fun _ _ _ _ _ _ us hl => match us, hl with | [_, _], _ => rfl) (fun cdv A outer s H E hr =>
 (mss_cons (ms_setLc 2 (own := [("_law_i", 3)]) (mi_range1 (ma_cons (me_callB cd_len (ma_cons (me_var 0) ma_nil) Z.fr_len) ma_nil) Z.fr_range) (blkOk_by (N := N__law_edge) (sc := defScope s__law_edge) (by decide +kernel)) (fun _ _ _ _ _ => (mg_name 3)) (fun _ _ _ _ _ => (mts_one (mt_cmp od_in (me_var 1) (me_ix ixd (me_var 0) (me_var 3))))) (fun _ _ _ _ _ => (me_var 3)) (by decide))
 (mss_cons (ms_setLc 4 (own := [("_law_i", 3)]) (mi_seq (me_var 2)) (blkOk_by (N := N__law_edge) (sc := defScope s__law_edge) (by decide +kernel)) (fun _ _ _ _ _ => (mg_name 3)) (fun _ _ _ _ _ => (mts_one (mt_cmp (od_eq (Room.u64 hr)) (me_fn (oks__law_after Z) (hr.mono (by decide)) (ma_cons (me_ix ixd (me_var 0) (me_var 3)) (ma_cons (me_var 1) ma_nil))) (me_ix ixd (me_lst (ma_cons (me_un ud_neg me_int) (ma_cons (me_un ud_neg me_int) (ma_cons (me_un ud_neg me_int) (ma_cons (me_un ud_neg me_int) ma_nil))))) (me_bin od_add (me_var 1) me_int))))) (fun _ _ _ _ _ => (me_var 3)) (by decide))
 (mss_cons (ms_if (mt_cmp (od_ne (Room.u64 hr)) (me_callB cd_len (ma_cons (me_var 4) ma_nil) Z.fr_len) me_int)
 (mss_one (ms_ret me_bl))
 mss_nil)
 (mss_cons (ms_set 5 (me_ix ixd (me_var 4) me_int))
 (mss_cons (ms_set 6 me_int)
 (mss_cons (ms_for (mi_range1 (ma_cons (me_callB cd_len (ma_cons (me_var 0) ma_nil) Z.fr_len) ma_nil) Z.fr_range) (mg_name 7)
 (mss_cons (ms_set 8 (me_fn (oks__law_ahead Z) (hr.mono (by decide)) (ma_cons (me_ix ixd (me_var 0) (me_var 5)) (ma_cons (me_var 1) ma_nil))))
 (mss_cons (ms_if (mt_cmp od_lt (me_var 8) me_int)
 (mss_one (ms_ret (me_and (me_cmp (od_eq (Room.u64 hr)) (me_var 8) (me_ix ixd (me_lst (ma_cons (me_un ud_neg me_int) (ma_cons (me_un ud_neg me_int) (ma_cons (me_un ud_neg me_int) (ma_cons (me_un ud_neg me_int) ma_nil))))) (me_bin od_add (me_var 1) me_int))) (me_one (me_cmp (od_eq (Room.u64 hr)) (me_var 6) (me_callB cd_len (ma_cons (me_var 2) ma_nil) Z.fr_len))))))
 mss_nil)
 (mss_cons (ms_set 5 (me_var 8))
 (mss_one (ms_set 6 (me_bin od_add (me_var 6) me_int)))))))
 (mss_one (ms_ret me_bl)))))))))
theorem oks__law_edge (Z : Ft P w K mg base) : OkD P w K mg base 2 "_law_edge" s__law_edge ["_law_sheet", "_law_edge_here"] sp__law_edge := (ok__law_edge Z).spec sim__law_edge
theorem sc__law_hangs : FnScope N__law_hangs ["_law_sheet"] (defScope s__law_hangs) := ⟨rfl, rfl, rfl, by decide +kernel, rfl, by decide +kernel, by decide +kernel⟩
theorem ok__law_hangs (Z : Ft P w K mg base) : OkD P w K mg base 1 "_law_hangs" s__law_hangs ["_law_sheet"] rf__law_hangs := okd Z.g__law_hangs Z.f__law_hangs sc__law_hangs (fun _ _ _ _ _ _ us hl => match us, hl with | [_], _ => rfl) (fun cdv A outer s H E hr =>
 (mss_cons (ms_set 1 (me_lst (ma_cons me_int ma_nil)))
 (mss_cons (ms_for (mi_range1 (ma_cons (me_callB cd_len (ma_cons (me_var 0) ma_nil) Z.fr_len) ma_nil) Z.fr_range) (mg_name 2)
 (mss_cons (ms_if (mt_cmp od_ge (me_var 2) (me_callB cd_len (ma_cons (me_var 1) ma_nil) Z.fr_len))
 (mss_one (ms_ret me_bl))
 mss_nil)
 (mss_one (ms_for (mi_seq (me_ix ixd (me_var 0) (me_ix ixd (me_var 1) (me_var 2)))) (mg_name 3)
 (mss_one (ms_if (mw_pt (mw_and (mt_cmp od_ge (me_var 3) me_int) (mw_and1 (mt_cmp od_notIn (me_var 3) (me_var 1)))))
 (mss_one (ms_expr (me_bm F.slot_list_append rfl md_append (me_var 1) (ma_cons (me_var 3) ma_nil))))
 mss_nil))))))
 (mss_one (ms_ret me_bl)))))
theorem oks__law_hangs (Z : Ft P w K mg base) : OkD P w K mg base 1 "_law_hangs" s__law_hangs ["_law_sheet"] sp__law_hangs := (ok__law_hangs Z).spec sim__law_hangs
theorem sc__law_fault : FnScope N__law_fault ["_law_value"] (defScope s__law_fault) := ⟨rfl, rfl, rfl, by decide +kernel, rfl, by decide +kernel, by decide +kernel⟩
theorem ok__law_fault (Z : Ft P w K mg base) : OkD P w K mg base 3 "_law_fault" s__law_fault ["_law_value"] rf__law_fault := okd Z.g__law_fault Z.f__law_fault sc__law_fault (fun _ _ _ _ _ _ us hl => match us, hl with | [_], _ => rfl) (fun cdv A outer s H E hr =>
 (mss_cons (ms_if (mw_pt (mw_or (mt_not (mt_val (me_isi (T := "tuple") (me_var 0) Z.fr_isinstance Z.fr_tuple))) (mw_or1 (mt_cmp (od_eq (Room.u64 hr)) (me_callB cd_len (ma_cons (me_var 0) ma_nil) Z.fr_len) me_int))))
 (mss_one (ms_ret (me_tup (ma_cons me_str (ma_cons (me_un ud_neg me_int) ma_nil)))))
 mss_nil)
 (mss_cons (ms_set 1 (me_callB cd_len (ma_cons (me_var 0) ma_nil) Z.fr_len))
 (mss_cons (ms_for (mi_range1 (ma_cons (me_var 1) ma_nil) Z.fr_range) (mg_name 2)
 (mss_one (ms_if (mt_not (mt_val (me_fn (oks__law_circle Z) (hr.mono (by decide)) (ma_cons (me_ix ixd (me_var 0) (me_var 2)) (ma_cons (me_var 2) (ma_cons (me_var 1) ma_nil))))))
 (mss_one (ms_ret (me_tup (ma_cons me_str (ma_cons (me_var 2) ma_nil)))))
 mss_nil)))
 (mss_cons (ms_for (mi_range1 (ma_cons (me_var 1) ma_nil) Z.fr_range) (mg_name 2)
 (mss_one (ms_for (mi_seq (me_ix ixd (me_var 0) (me_var 2))) (mg_name 3)
 (mss_one (ms_if (mw_pt (mw_and (mt_cmp od_ge (me_var 3) me_int) (mw_and1 (mt_cmp od_notIn (me_var 2) (me_ix ixd (me_var 0) (me_var 3))))))
 (mss_one (ms_ret (me_tup (ma_cons me_str (ma_cons (me_tup (ma_cons (me_var 2) (ma_cons (me_var 3) ma_nil))) ma_nil)))))
 mss_nil)))))
 (mss_cons (ms_for (mi_range1 (ma_cons (me_var 1) ma_nil) Z.fr_range) (mg_name 2)
 (mss_one (ms_for (mi_seq (me_ix ixd (me_var 0) (me_var 2))) (mg_name 3)
 (mss_one (ms_if (mt_not (mt_val (me_fn (oks__law_corner Z) (hr.mono (by decide)) (ma_cons (me_var 0) (ma_cons (me_var 2) (ma_cons (me_var 3) (ma_cons (me_fn (oks__law_after Z) (hr.mono (by decide)) (ma_cons (me_ix ixd (me_var 0) (me_var 2)) (ma_cons (me_var 3) ma_nil))) ma_nil)))))))
 (mss_one (ms_ret (me_tup (ma_cons me_str (ma_cons (me_tup (ma_cons (me_var 2) (ma_cons (me_var 3) ma_nil))) ma_nil)))))
 mss_nil)))))
 (mss_cons (ms_for (mi_seq (me_lst (ma_cons (me_un ud_neg me_int) (ma_cons (me_un ud_neg me_int) (ma_cons (me_un ud_neg me_int) (ma_cons (me_un ud_neg me_int) ma_nil)))))) (mg_name 4)
 (mss_one (ms_if (mt_not (mt_val (me_fn (oks__law_edge Z) (hr.mono (by decide)) (ma_cons (me_var 0) (ma_cons (me_var 4) ma_nil)))))
 (mss_one (ms_ret (me_tup (ma_cons me_str (ma_cons (me_var 4) ma_nil)))))
 mss_nil)))
 (mss_cons (ms_if (mt_not (mt_val (me_fn (oks__law_hangs Z) (hr.mono (by decide)) (ma_cons (me_var 0) ma_nil))))
 (mss_one (ms_ret (me_tup (ma_cons me_str (ma_cons (me_un ud_neg me_int) ma_nil)))))
 mss_nil)
 (mss_cons (ms_set 5 me_int)
 (mss_cons (ms_for (mi_seq (me_var 0)) (mg_name 6)
 (mss_one (ms_for (mi_seq (me_var 6)) (mg_name 3)
 (mss_one (ms_set 5 (me_bin od_add (me_bin od_add (me_var 5) me_int) (me_callTy cd_int (ma_cons (me_cmp od_lt (me_var 3) me_int) ma_nil) Z.fr_int)))))))
 (mss_cons (ms_if (mt_cmp (od_ne (Room.u64 hr)) (me_var 5) (me_bin od_mul me_int (me_bin od_add (me_bin od_mul me_int (me_var 1)) me_int)))
 (mss_one (ms_ret (me_tup (ma_cons me_str (ma_cons (me_un ud_neg me_int) ma_nil)))))
 mss_nil)
 (mss_one (ms_ret (me_tup ma_nil))))))))))))))
theorem oks__law_fault (Z : Ft P w K mg base) : OkD P w K mg base 3 "_law_fault" s__law_fault ["_law_value"] sp__law_fault := (ok__law_fault Z).spec sim__law_fault
theorem sc__law_odd : FnScope N__law_odd ["_law_pool_here", "_law_count"] (defScope s__law_odd) := ⟨rfl, rfl, rfl, by decide +kernel, rfl, by decide +kernel, by decide +kernel⟩
theorem ok__law_odd (Z : Ft P w K mg base) : OkD P w K mg base 3 "_law_odd" s__law_odd ["_law_pool_here", "_law_count"] rf__law_odd := okd Z.g__law_odd Z.f__law_odd sc__law_odd (fun _ _ _ _ _ _ us hl => match us, hl with | [_, _], _ => rfl) (fun cdv A outer s H E hr =>
 (mss_cons (ms_if (mt_cmp od_lt (me_fn (ok__law_take Z) (hr.mono (by decide)) (ma_cons (me_var 0) (ma_cons me_int ma_nil))) me_int)
 (mss_one (ms_ret (me_bin od_sub (me_fn (ok__law_take Z) (hr.mono (by decide)) (ma_cons (me_var 0) (ma_cons (me_bin od_add (me_var 1) me_int) ma_nil))) me_int)))
 mss_nil)
 (mss_one (ms_ret (me_ix ixd (me_lst (ma_cons me_bl (ma_cons me_bl (ma_cons me_non (ma_cons me_str (ma_cons (me_un ud_neg me_int) (ma_cons (me_tup ma_nil) (ma_cons (me_tup (ma_cons me_int ma_nil)) (ma_cons (me_bin od_pow me_int me_int) ma_nil))))))))) (me_fn (ok__law_take Z) (hr.mono (by decide)) (ma_cons (me_var 0) (ma_cons me_int ma_nil))))))))
theorem sc__law_few : FnScope N__law_few ["_law_pool_here", "_law_rows_held", "_law_pick"] (defScope s__law_few) := ⟨rfl, rfl, rfl, by decide +kernel, rfl, by decide +kernel, by decide +kernel⟩
theorem ok__law_few (Z : Ft P w K mg base) : OkD P w K mg base 4 "_law_few" s__law_few ["_law_pool_here", "_law_rows_held", "_law_pick"] rf__law_few := okd Z.g__law_few Z.f__law_few sc__law_few (fun _ _ _ _ _ _ us hl => match us, hl with | [_, _, _], _ => rfl) (fun cdv A outer s H E hr =>
 (mss_cons (ms_set 3 (me_fn (ok__law_take Z) (hr.mono (by decide)) (ma_cons (me_var 0) (ma_cons (me_callB cd_len (ma_cons (me_var 1) ma_nil) Z.fr_len) ma_nil))))
 (mss_cons (ms_set 4 (me_ix ixd (me_var 1) (me_var 3)))
 (mss_cons (ms_set 5 (me_fn (ok__law_take Z) (hr.mono (by decide)) (ma_cons (me_var 0) (ma_cons (me_callB cd_len (ma_cons (me_var 4) ma_nil) Z.fr_len) ma_nil))))
 (mss_cons (ms_set 6 (me_fn (ok__law_take Z) (hr.mono (by decide)) (ma_cons (me_var 0) (ma_cons (me_callB cd_len (ma_cons (me_var 4) ma_nil) Z.fr_len) ma_nil))))
 (mss_cons (ms_if (mt_cmp (od_eq (Room.u64 hr)) (me_var 2) me_int)
 (mss_one (ms_sub sd_list (me_bin od_add (me_slH (me_var 4) (me_var 5)) (me_slL (me_var 4) (me_bin od_add (me_var 5) me_int))) (me_var 1) (me_var 3)))
 (mss_one (ms_if (mt_cmp (od_eq (Room.u64 hr)) (me_var 2) me_int)
 (mss_one (ms_sub sd_list (me_bin od_add (me_bin od_add (me_slH (me_var 4) (me_bin od_add (me_var 5) me_int)) (me_lst (ma_cons (me_fn (ok__law_odd Z) (hr.mono (by decide)) (ma_cons (me_var 0) (ma_cons (me_callB cd_len (ma_cons (me_var 1) ma_nil) Z.fr_len) ma_nil))) ma_nil))) (me_slL (me_var 4) (me_bin od_add (me_var 5) me_int))) (me_var 1) (me_var 3)))
 (mss_one (ms_if (mt_cmp (od_eq (Room.u64 hr)) (me_var 2) me_int)
 (mss_cons (ms_set 7 (me_ix ixd (me_var 4) (me_var 5)))
 (mss_cons (ms_sub sd_list (me_ix ixd (me_var 4) (me_var 6)) (me_var 4) (me_var 5))
 (mss_one (ms_sub sd_list (me_var 7) (me_var 4) (me_var 6)))))
 (mss_one (ms_if (mt_cmp (od_eq (Room.u64 hr)) (me_var 2) me_int)
 (mss_one (ms_sub sd_list (me_fn (ok__law_odd Z) (hr.mono (by decide)) (ma_cons (me_var 0) (ma_cons (me_callB cd_len (ma_cons (me_var 1) ma_nil) Z.fr_len) ma_nil))) (me_var 4) (me_var 5)))
 (mss_one (ms_if (mt_cmp (od_eq (Room.u64 hr)) (me_var 2) me_int)
 (mss_one (ms_sub sd_list (me_bin od_add (me_slL (me_var 4) (me_var 5)) (me_slH (me_var 4) (me_var 5))) (me_var 1) (me_var 3)))
 (mss_one (ms_if (mt_cmp (od_eq (Room.u64 hr)) (me_var 2) me_int)
 (mss_one (ms_sub sd_list (me_bin od_add (me_lst (ma_cons (me_ix ixd (me_var 4) me_int) ma_nil)) (me_back (me_var 4))) (me_var 1) (me_var 3)))
 (mss_cons (ms_set 7 (me_ix ixd (me_var 1) (me_var 3)))
 (mss_cons (ms_set 8 (me_fn (ok__law_take Z) (hr.mono (by decide)) (ma_cons (me_var 0) (ma_cons (me_callB cd_len (ma_cons (me_var 1) ma_nil) Z.fr_len) ma_nil))))
 (mss_cons (ms_sub sd_list (me_ix ixd (me_var 1) (me_var 8)) (me_var 1) (me_var 3))
 (mss_one (ms_sub sd_list (me_var 7) (me_var 1) (me_var 8)))))))))))))))))
 (mss_one (ms_ret (me_callTy cd_tuple (ma_cons (me_lc (own := [("_law_circle_here", 4)]) (mi_seq (me_var 1)) (blkOk_by (N := N__law_few) (sc := defScope s__law_few) (by decide +kernel)) (fun _ _ _ _ _ => (mg_name 4)) (fun _ _ _ _ _ => mts_nil) (fun _ _ _ _ _ => (me_callTy cd_tuple (ma_cons (me_var 4) ma_nil) Z.fr_tuple)) (by decide)) ma_nil) Z.fr_tuple)))))))))
theorem sc__law_swapped : FnScope N__law_swapped ["_law_rows_held", "_law_i", "_law_j"] (defScope s__law_swapped) := ⟨rfl, rfl, rfl, by decide +kernel, rfl, by decide +kernel, by decide +kernel⟩
theorem ok__law_swapped (Z : Ft P w K mg base) : OkD P w K mg base 2 "_law_swapped" s__law_swapped ["_law_rows_held", "_law_i", "_law_j"] rf__law_swapped := okd Z.g__law_swapped Z.f__law_swapped sc__law_swapped (fun _ _ _ _ _ _ us hl => match us, hl with | [_, _, _], _ => rfl) (fun cdv A outer s H E hr =>
 (mss_cons (ms_set 3 (me_listRg (me_callB cd_len (ma_cons (me_var 0) ma_nil) Z.fr_len) Z.fr_list Z.fr_range))
 (mss_cons (ms_sub sd_list (me_var 2) (me_var 3) (me_var 1))
 (mss_cons (ms_sub sd_list (me_var 1) (me_var 3) (me_var 2))
 (mss_cons (ms_set 4 (me_lst ma_nil))
 (mss_cons (ms_for (mi_range1 (ma_cons (me_callB cd_len (ma_cons (me_var 0) ma_nil) Z.fr_len) ma_nil) Z.fr_range) (mg_name 5)
 (mss_one (ms_expr (me_bm F.slot_list_append rfl md_append (me_var 4) (ma_cons (me_lc (own := [("_law_part_here", 6)]) (mi_seq (me_ix ixd (me_var 0) (me_ix ixd (me_var 3) (me_var 5)))) (blkOk_by (N := N__law_swapped) (sc := defScope s__law_swapped) (by decide +kernel)) (fun _ _ _ _ _ => (mg_name 6)) (fun _ _ _ _ _ => mts_nil) (fun _ _ _ _ _ => (me_if (mt_cmp od_ge (me_var 6) me_int) (me_ix ixd (me_var 3) (me_var 6)) (me_var 6))) (by decide)) ma_nil)))))
 (mss_one (ms_ret (me_fn (ok__law_told Z) (hr.mono (by decide)) (ma_cons (me_var 4) ma_nil))))))))))
theorem sc__law_mirror : FnScope N__law_mirror ["_law_rows_held", "_law_sides"] (defScope s__law_mirror) := ⟨rfl, rfl, rfl, by decide +kernel, rfl, by decide +kernel, by decide +kernel⟩
theorem ok__law_mirror (Z : Ft P w K mg base) : OkD P w K mg base 2 "_law_mirror" s__law_mirror ["_law_rows_held", "_law_sides"] rf__law_mirror := okd Z.g__law_mirror Z.f__law_mirror sc__law_mirror (fun _ _ _ _ _ _ us hl => match us, hl with | [_, _], _ => rfl) (fun cdv A outer s H E hr =>
 (mss_cons (ms_set 2 (me_lst ma_nil))
 (mss_cons (ms_for (mi_seq (me_var 0)) (mg_name 3)
 (mss_one (ms_expr (me_bm F.slot_list_append rfl md_append (me_var 2) (ma_cons (me_lc (own := [("_law_part_here", 4)]) (mi_seq (me_rev (me_var 3))) (blkOk_by (N := N__law_mirror) (sc := defScope s__law_mirror) (by decide +kernel)) (fun _ _ _ _ _ => (mg_name 4)) (fun _ _ _ _ _ => mts_nil) (fun _ _ _ _ _ => (me_if (mt_cmp od_lt (me_var 4) me_int) (me_ix ixd (me_var 1) (me_bin od_add (me_var 4) me_int)) (me_var 4))) (by decide)) ma_nil)))))
 (mss_one (ms_ret (me_fn (ok__law_told Z) (hr.mono (by decide)) (ma_cons (me_var 2) ma_nil)))))))
theorem sc__law_changed : FnScope N__law_changed ["_law_pool_here", "_law_sheet", "_law_pick"] (defScope s__law_changed) := ⟨rfl, rfl, rfl, by decide +kernel, rfl, by decide +kernel, by decide +kernel⟩
theorem ok__law_changed (Z : Ft P w K mg base) : OkD P w K mg base 5 "_law_changed" s__law_changed ["_law_pool_here", "_law_sheet", "_law_pick"] rf__law_changed := okd Z.g__law_changed Z.f__law_changed sc__law_changed (fun _ _ _ _ _ _ us hl => match us, hl with | [_, _, _], _ => rfl) (fun cdv A outer s H E hr =>
 (mss_cons (ms_setLc 3 (own := [("_law_circle_here", 4)]) (mi_seq (me_var 1)) (blkOk_by (N := N__law_changed) (sc := defScope s__law_changed) (by decide +kernel)) (fun _ _ _ _ _ => (mg_name 4)) (fun _ _ _ _ _ => mts_nil) (fun _ _ _ _ _ => (me_callTy cd_list (ma_cons (me_var 4) ma_nil) Z.fr_list)) (by decide))
 (mss_cons (ms_set 5 (me_fn (ok__law_take Z) (hr.mono (by decide)) (ma_cons (me_var 0) (ma_cons (me_callB cd_len (ma_cons (me_var 1) ma_nil) Z.fr_len) ma_nil))))
 (mss_cons (ms_if (mt_cmp od_lt (me_var 2) me_int)
 (mss_one (ms_ret (me_fn (ok__law_few Z) (hr.mono (by decide)) (ma_cons (me_var 0) (ma_cons (me_var 3) (ma_cons (me_var 2) ma_nil))))))
 mss_nil)
 (mss_cons (ms_if (mt_cmp (od_eq (Room.u64 hr)) (me_var 2) me_int)
 (mss_one (ms_ret (me_fn (ok__law_swapped Z) (hr.mono (by decide)) (ma_cons (me_var 3) (ma_cons (me_var 5) (ma_cons (me_fn (ok__law_take Z) (hr.mono (by decide)) (ma_cons (me_var 0) (ma_cons (me_callB cd_len (ma_cons (me_var 1) ma_nil) Z.fr_len) ma_nil))) ma_nil))))))
 mss_nil)
 (mss_cons (ms_if (mt_cmp (od_eq (Room.u64 hr)) (me_var 2) me_int)
 (mss_one (ms_ret (me_fn (ok__law_mirror Z) (hr.mono (by decide)) (ma_cons (me_var 3) (ma_cons (me_ix ixd (me_lst (ma_cons (me_lst (ma_cons (me_un ud_neg me_int) (ma_cons (me_un ud_neg me_int) (ma_cons (me_un ud_neg me_int) (ma_cons (me_un ud_neg me_int) ma_nil))))) (ma_cons (me_lst (ma_cons (me_un ud_neg me_int) (ma_cons (me_un ud_neg me_int) (ma_cons (me_un ud_neg me_int) (ma_cons (me_un ud_neg me_int) ma_nil))))) (ma_cons (me_lst (ma_cons (me_un ud_neg me_int) (ma_cons (me_un ud_neg me_int) (ma_cons (me_un ud_neg me_int) (ma_cons (me_un ud_neg me_int) ma_nil))))) ma_nil)))) (me_fn (ok__law_take Z) (hr.mono (by decide)) (ma_cons (me_var 0) (ma_cons me_int ma_nil)))) ma_nil)))))
 mss_nil)
 (mss_cons (ms_if (mt_cmp (od_eq (Room.u64 hr)) (me_var 2) me_int)
 (mss_one (ms_ret (me_bin od_add (me_bin od_add (me_slH (me_var 1) (me_var 5)) (me_tup (ma_cons (me_ix ixd (me_var 3) (me_var 5)) ma_nil))) (me_slL (me_var 1) (me_bin od_add (me_var 5) me_int)))))
 mss_nil)
 (mss_cons (ms_if (mt_cmp (od_eq (Room.u64 hr)) (me_var 2) me_int)
 (mss_one (ms_ret (me_bin od_add (me_slH (me_var 1) (me_var 5)) (me_slL (me_var 1) (me_bin od_add (me_var 5) me_int)))))
 mss_nil)
 (mss_cons (ms_if (mt_cmp (od_eq (Room.u64 hr)) (me_var 2) me_int)
 (mss_one (ms_ret (me_bin od_add (me_var 1) (me_tup (ma_cons (me_ix ixd (me_lst (ma_cons (me_tup (ma_cons (me_un ud_neg me_int) (ma_cons (me_un ud_neg me_int) (ma_cons me_int ma_nil)))) (ma_cons (me_tup (ma_cons (me_un ud_neg me_int) (ma_cons (me_un ud_neg me_int) (ma_cons (me_un ud_neg me_int) (ma_cons (me_un ud_neg me_int) ma_nil))))) (ma_cons (me_tup (ma_cons me_int (ma_cons me_int (ma_cons me_int ma_nil)))) (ma_cons (me_tup ma_nil) ma_nil))))) (me_fn (ok__law_take Z) (hr.mono (by decide)) (ma_cons (me_var 0) (ma_cons me_int ma_nil)))) ma_nil)))))
 mss_nil)
 (mss_cons (ms_if (mt_cmp (od_eq (Room.u64 hr)) (me_var 2) me_int)
 (mss_one (ms_ret (me_ix ixd (me_lst (ma_cons (me_callTy cd_list (ma_cons (me_var 1) ma_nil) Z.fr_list) (ma_cons me_non (ma_cons me_int (ma_cons me_str (ma_cons (me_tup ma_nil) (ma_cons me_bl (ma_cons (me_lst ma_nil) (ma_cons (me_tup (ma_cons (me_tup ma_nil) ma_nil)) (ma_cons (me_tup (ma_cons me_non ma_nil)) (ma_cons (me_tup (ma_cons (me_var 1) ma_nil)) ma_nil))))))))))) (me_fn (ok__law_take Z) (hr.mono (by decide)) (ma_cons (me_var 0) (ma_cons me_int ma_nil))))))
 mss_nil)
 (mss_one (ms_ret (me_bin od_add (me_bin od_add (me_slH (me_var 1) (me_var 5)) (me_tup (ma_cons (me_ix ixd (me_lst (ma_cons me_non (ma_cons me_int (ma_cons me_str (ma_cons (me_tup ma_nil) (ma_cons (me_tup (ma_cons (me_un ud_neg me_int) (ma_cons (me_un ud_neg me_int) ma_nil))) (ma_cons (me_tup (ma_cons (me_un ud_neg me_int) (ma_cons (me_un ud_neg me_int) (ma_cons (me_un ud_neg me_int) (ma_cons (me_un ud_neg me_int) ma_nil))))) ma_nil))))))) (me_fn (ok__law_take Z) (hr.mono (by decide)) (ma_cons (me_var 0) (ma_cons me_int ma_nil)))) ma_nil))) (me_slL (me_var 1) (me_bin od_add (me_var 5) me_int)))))))))))))))
theorem sc__law_ask : FnScope N__law_ask ["_law_value", "_law_named"] (defScope s__law_ask) := ⟨rfl, rfl, rfl, by decide +kernel, rfl, by decide +kernel, by decide +kernel⟩
theorem ok__law_ask (Z : Ft P w K mg base) : OkD P w K mg base 8 "_law_ask" s__law_ask ["_law_value", "_law_named"] rf__law_ask := okd Z.g__law_ask Z.f__law_ask sc__law_ask (fun _ _ _ _ _ _ us hl => match us, hl with | [_, _], _ => rfl) (fun cdv A outer s H E hr =>
 (mss_cons (ms_tryAs 3 rfl (dec1_ok Z.x_InvalidPaper Z.e_InvalidPaper.gm) ⟨by rfl, by decide, .inl Z.e_InvalidPaper.gm⟩ (fun W pn xe tk ow => (mss_one (ms_set 2 (me_if (mt_val (me_var 1)) (me_fnK0 (ks := ["thing"]) (pm := @pm01) (oks_lets_plan Z) (hr.mono (by decide)) perm_01 (fun _ _ _ _ _ _ us ws h1 h2 => match us, ws, h1, h2 with | [], [_], _, _ => rfl) (mk_cons (me_var 0) mk_nil)) (me_fn (oks_lets_plan Z) (hr.mono (by decide)) (ma_cons (me_var 0) ma_nil)))))) (fun ad oe cls dx pn hz hf => (mss_cons (ms_if (mw_pt (mw_or (mt_not (mt_val (me_isE (n := "InvalidPaper") (k := true) (ad := ad) (oe := oe) (cls := cls) (dx := dx) (pn := pn) (c := ⟨K, mg, none⟩) (Y := cxOf (L2.CX P w) P w K mg base N__law_ask "_law_ask" (defScope s__law_ask) (He.ga K "_law_ask") cdv A outer s H E) Z.xc_InvalidPaper Z.gc_InvalidPaper Z.fr_isinstance (pe_glob (v := V.ref (He.ga K "PaperError")) rfl Z.gc_PaperError rfl) (fun _ h => h) Z.ki_InvalidPaper_PaperError hz hf (me_var 3)))) (mw_or (mt_not (mt_val (me_isE (n := "InvalidPaper") (k := true) (ad := ad) (oe := oe) (cls := cls) (dx := dx) (pn := pn) (c := ⟨K, mg, none⟩) (Y := cxOf (L2.CX P w) P w K mg base N__law_ask "_law_ask" (defScope s__law_ask) (He.ga K "_law_ask") cdv A outer s H E) Z.xc_InvalidPaper Z.gc_InvalidPaper Z.fr_isinstance (pe_glob (v := V.ref (He.ga K "HangError")) rfl Z.gc_HangError rfl) (fun _ h => h) Z.ki_InvalidPaper_HangError hz hf (me_var 3)))) (mw_or1 (mt_not (mt_val (me_isE (n := "InvalidPaper") (k := true) (ad := ad) (oe := oe) (cls := cls) (dx := dx) (pn := pn) (c := ⟨K, mg, none⟩) (Y := cxOf (L2.CX P w) P w K mg base N__law_ask "_law_ask" (defScope s__law_ask) (He.ga K "_law_ask") cdv A outer s H E) Z.xc_InvalidPaper Z.gc_InvalidPaper Z.fr_isinstance (pe_bltn (v := V.ty "ValueError") rfl Z.fr_ValueError (by decide +kernel) rfl (by decide) (by decide)) (fun _ h => h) Z.ki_InvalidPaper_ValueError hz hf (me_var 3))))))))
 (mss_one (ms_ret (me_tup (ma_cons me_str (ma_cons me_int ma_nil)))))
 mss_nil)
 (mss_cons (ms_if (mw_pt (mw_or (mt_val (me_isE (n := "InvalidPaper") (k := false) (ad := ad) (oe := oe) (cls := cls) (dx := dx) (pn := pn) (c := ⟨K, mg, none⟩) (Y := cxOf (L2.CX P w) P w K mg base N__law_ask "_law_ask" (defScope s__law_ask) (He.ga K "_law_ask") cdv A outer s H E) Z.xc_InvalidPaper Z.gc_InvalidPaper Z.fr_isinstance (pe_glob (v := V.ref (He.ga K "PlanError")) rfl Z.gc_PlanError rfl) (fun _ h => h) Z.ki_InvalidPaper_PlanError hz hf (me_var 3))) (mw_or1 (mt_val (me_isE (n := "InvalidPaper") (k := false) (ad := ad) (oe := oe) (cls := cls) (dx := dx) (pn := pn) (c := ⟨K, mg, none⟩) (Y := cxOf (L2.CX P w) P w K mg base N__law_ask "_law_ask" (defScope s__law_ask) (He.ga K "_law_ask") cdv A outer s H E) Z.xc_InvalidPaper Z.gc_InvalidPaper Z.fr_isinstance (pe_glob (v := V.ref (He.ga K "NotUsable")) rfl Z.gc_NotUsable rfl) (fun _ h => h) Z.ki_InvalidPaper_NotUsable hz hf (me_var 3))))))
 (mss_one (ms_ret (me_tup (ma_cons me_str (ma_cons me_int ma_nil)))))
 mss_nil)
 (mss_one (ms_ret (me_tup (ma_cons (me_xf (n := "InvalidPaper") (f := "word") (ad := ad) (oe := oe) (cls := cls) (dx := dx) (pn := pn) (c := ⟨K, mg, none⟩) (Y := cxOf (L2.CX P w) P w K mg base N__law_ask "_law_ask" (defScope s__law_ask) (He.ga K "_law_ask") cdv A outer s H E) Z.e_InvalidPaper.er.xf Z.e_InvalidPaper.gm (Z.e_InvalidPaper.er.no _ (by simp)) hz hf (me_var 3)) (ma_cons (me_xf (n := "InvalidPaper") (f := "at") (ad := ad) (oe := oe) (cls := cls) (dx := dx) (pn := pn) (c := ⟨K, mg, none⟩) (Y := cxOf (L2.CX P w) P w K mg base N__law_ask "_law_ask" (defScope s__law_ask) (He.ga K "_law_ask") cdv A outer s H E) Z.e_InvalidPaper.er.xf Z.e_InvalidPaper.gm (Z.e_InvalidPaper.er.no _ (by simp)) hz hf (me_var 3)) ma_nil)))))))))
 (mss_one (ms_ret (me_tup (ma_cons me_str (ma_cons (me_var 2) ma_nil)))))))
theorem sc__law_like : FnScope N__law_like ["_law_told_here", "_law_due"] (defScope s__law_like) := ⟨rfl, rfl, rfl, by decide +kernel, rfl, by decide +kernel, by decide +kernel⟩
theorem okr__law_like (Z : Ft P w K mg base) : ∀ d : Nat, OkD P w K mg base (2 + d) "_law_like" s__law_like ["_law_told_here", "_law_due"] (rr__law_like d)
  | 0 => okd_stuck Z.g__law_like Z.f__law_like (fun _ _ _ _ _ _ us hl => match us, hl with | [_, _], _ => rfl)
  | d + 1 => by
    have ih := okr__law_like Z d
    exact okd Z.g__law_like Z.f__law_like sc__law_like (fun _ _ _ _ _ _ us hl => match us, hl with | [_, _], _ => rfl) (fun cdv A outer s H E hr =>
 (mss_cons (ms_if (mt_val (me_isi (T := "tuple") (me_var 1) Z.fr_isinstance Z.fr_tuple))
 (mss_cons (ms_if (mw_pt (mw_or (mt_not (mt_val (me_isi (T := "tuple") (me_var 0) Z.fr_isinstance Z.fr_tuple))) (mw_or1 (mt_cmp (od_ne (Room.u64 hr)) (me_callB cd_len (ma_cons (me_var 0) ma_nil) Z.fr_len) (me_callB cd_len (ma_cons (me_var 1) ma_nil) Z.fr_len)))))
 (mss_one (ms_ret me_bl))
 mss_nil)
 (mss_cons (ms_for (mi_range1 (ma_cons (me_callB cd_len (ma_cons (me_var 1) ma_nil) Z.fr_len) ma_nil) Z.fr_range) (mg_name 2)
 (mss_one (ms_if (mt_not (mt_val (me_fn (ps := ["_law_told_here", "_law_due"]) (rf := rr__law_like d) (k := 2 + d) (st := s__law_like) (okr__law_like Z d) (hr.mono (Nat.le_refl _)) (ma_cons (me_ix ixd (me_var 0) (me_var 2)) (ma_cons (me_ix ixd (me_var 1) (me_var 2)) ma_nil)))))
 (mss_one (ms_ret me_bl))
 mss_nil)))
 (mss_one (ms_ret me_bl))))
 mss_nil)
 (mss_cons (ms_if (mt_val (me_isi (T := "str") (me_var 1) Z.fr_isinstance Z.fr_str))
 (mss_one (ms_ret (me_and (me_isi (T := "str") (me_var 0) Z.fr_isinstance Z.fr_str) (me_one (me_cmp (od_eq (Room.u64 hr)) (me_var 0) (me_var 1))))))
 mss_nil)
 (mss_one (ms_ret (me_and (me_fn (oks__law_whole Z) (hr.mono (Nat.le_trans (show 1 ≤ 2 from by decide) (Nat.le_add_right 2 d))) (ma_cons (me_var 0) ma_nil)) (me_one (me_cmp (od_eq (Room.u64 hr)) (me_var 0) (me_var 1)))))))))
theorem ok__law_like (Z : Ft P w K mg base) : OkD P w K mg base 8 "_law_like" s__law_like ["_law_told_here", "_law_due"] rf__law_like := okr__law_like Z 6
theorem sc__law_right : FnScope N__law_right ["_law_value", "_law_named"] (defScope s__law_right) := ⟨rfl, rfl, rfl, by decide +kernel, rfl, by decide +kernel, by decide +kernel⟩
theorem ok__law_right (Z : Ft P w K mg base) : OkD P w K mg base 9 "_law_right" s__law_right ["_law_value", "_law_named"] rf__law_right := okd Z.g__law_right Z.f__law_right sc__law_right (fun _ _ _ _ _ _ us hl => match us, hl with | [_, _], _ => rfl) (fun cdv A outer s H E hr =>
 (mss_cons (ms_set 2 (me_fn (oks__law_fault Z) (hr.mono (by decide)) (ma_cons (me_var 0) ma_nil)))
 (mss_cons (ms_set 3 (me_cmp (od_eq (Room.u64 hr)) (me_callB cd_len (ma_cons (me_var 2) ma_nil) Z.fr_len) me_int))
 (mss_cons (ms_if (mt_val (me_var 3))
 (mss_one (ms_set 2 (me_tup (ma_cons me_str (ma_cons (me_callB cd_len (ma_cons (me_var 0) ma_nil) Z.fr_len) ma_nil)))))
 mss_nil)
 (mss_cons (ms_if (mt_not (mt_val (me_fn (ok__law_like Z) (hr.mono (by decide)) (ma_cons (me_fn (ok__law_ask Z) (hr.mono (by decide)) (ma_cons (me_var 0) (ma_cons (me_var 1) ma_nil))) (ma_cons (me_var 2) ma_nil)))))
 (mss_one (ms_ret me_bl))
 mss_nil)
 (mss_cons (ms_set 4 (me_if (mt_val (me_var 1)) (me_fn (oks_is_plan Z) (hr.mono (by decide)) (ma_cons (me_var 0) ma_nil)) (me_fnK0 (ks := ["thing"]) (pm := @pm01) (oks_is_plan Z) (hr.mono (by decide)) perm_01 (fun _ _ _ _ _ _ us ws h1 h2 => match us, ws, h1, h2 with | [], [_], _, _ => rfl) (mk_cons (me_var 0) mk_nil))))
 (mss_one (ms_ret (me_and (me_isi (T := "bool") (me_var 4) Z.fr_isinstance Z.fr_bool) (me_and (me_cmp (od_eq (Room.u64 hr)) (me_var 4) (me_var 3)) (me_one (me_fn (ok__law_like Z) (hr.mono (by decide)) (ma_cons (me_fn (ok__law_ask Z) (hr.mono (by decide)) (ma_cons (me_var 0) (ma_cons (me_not (me_var 1)) ma_nil))) (ma_cons (me_var 2) ma_nil))))))))))))))
theorem sc_law : FnScope N_law ["_law_script"] (defScope s_law) := ⟨rfl, rfl, rfl, by decide +kernel, rfl, by decide +kernel, by decide +kernel⟩
theorem ok_law (Z : Ft P w K mg base) : OkD P w K mg base 10 "law" s_law ["_law_script"] rf_law := okd Z.g_law Z.f_law sc_law (fun _ _ _ _ _ _ us hl => match us, hl with | [_], _ => rfl) (fun cdv A outer s H E hr =>
 (mss_cons (ms_set 1 (me_fn (ok__law_pool Z) (hr.mono (by decide)) (ma_cons (me_var 0) ma_nil)))
 (mss_cons (ms_set 2 (me_cmp (od_eq (Room.u64 hr)) (me_fn (ok__law_take Z) (hr.mono (by decide)) (ma_cons (me_var 1) (ma_cons me_int ma_nil))) me_int))
 (mss_cons (ms_set 3 (me_fn (ok__law_take Z) (hr.mono (by decide)) (ma_cons (me_var 1) (ma_cons me_int ma_nil))))
 (mss_cons (ms_if (mt_cmp (od_eq (Room.u64 hr)) (me_fn (ok__law_take Z) (hr.mono (by decide)) (ma_cons (me_var 1) (ma_cons me_int ma_nil))) me_int)
 (mss_one (ms_set 3 me_int))
 mss_nil)
 (mss_cons (ms_set 4 (me_fn (ok__law_start Z) (hr.mono (by decide)) (ma_cons (me_var 1) ma_nil)))
 (mss_cons (ms_set 5 (me_fn (ok__law_told Z) (hr.mono (by decide)) (ma_cons (me_fn (ok__law_grow Z) (hr.mono (by decide)) (ma_cons (me_var 1) (ma_cons (me_var 4) (ma_cons (me_var 3) ma_nil)))) ma_nil)))
 (mss_cons (ms_if (mt_not (mt_val (me_fn (ok__law_right Z) (hr.mono (by decide)) (ma_cons (me_var 5) (ma_cons (me_var 2) ma_nil)))))
 (mss_one (ms_ret me_bl))
 mss_nil)
 (mss_cons (ms_setLc 6 (own := [("_law_k", 7)]) (mi_range1 (ma_cons (me_bin od_sub me_int (me_bin od_div (me_var 3) me_int)) ma_nil) Z.fr_range) (blkOk_by (N := N_law) (sc := defScope s_law) (by decide +kernel)) (fun _ _ _ _ _ => (mg_name 7)) (fun _ _ _ _ _ => mts_nil) (fun _ _ _ _ _ => (me_fn (ok__law_take Z) (hr.mono (by decide)) (ma_cons (me_var 1) (ma_cons me_int ma_nil)))) (by decide))
 (mss_cons (ms_for (mi_seq (me_bin od_add (me_var 6) (me_lst (ma_cons me_int ma_nil)))) (mg_name 8)
 (mss_one (ms_if (mt_not (mt_val (me_fn (ok__law_right Z) (hr.mono (by decide)) (ma_cons (me_fn (ok__law_changed Z) (hr.mono (by decide)) (ma_cons (me_var 1) (ma_cons (me_var 5) (ma_cons (me_var 8) ma_nil)))) (ma_cons (me_var 2) ma_nil)))))
 (mss_one (ms_ret me_bl))
 mss_nil)))
 (mss_one (ms_ret me_bl))))))))))))
end LawM
end
section
set_option Elab.async false
set_option linter.all false
set_option maxRecDepth 100000
set_option maxHeartbeats 0
/-! the head -/
namespace LawM
open PySem PySem.Spec PyProof.Rows L2 MP
def dF (x : Str) (st : Stmt) : He.DefD := ⟨(x, none), x, x, defArgs st, defBody st, defScope st, [], []⟩
def dI (x : Str) (q : Str) (st : Stmt) : He.DefD := ⟨(x, some "__init__"), "__init__", q, defArgs st, defBody st, defScope st, [], []⟩
def inClass (st : Stmt) (j : Nat) : Stmt := match st with
  | .ClassDef _ _ _ b _ _ _ _ _ _ _ => b.getD j (.Pass ⟨0, 0, 0, 0⟩)
  | s => s
def i_InvalidPaper : Stmt := inClass (top 8) 0
theorem sci_InvalidPaper : FnScope ["self", "word", "at"] ["self", "word", "at"] (defScope i_InvalidPaper) := ⟨rfl, rfl, rfl, by decide +kernel, rfl, by decide +kernel, by decide +kernel⟩
def i_NotUsable : Stmt := inClass (top 9) 0
theorem sci_NotUsable : FnScope ["self", "word", "at"] ["self", "word", "at"] (defScope i_NotUsable) := ⟨rfl, rfl, rfl, by decide +kernel, rfl, by decide +kernel, by decide +kernel⟩
def fn : List He.DefD := [dF "after" s_after, dF "ahead" s_ahead, dF "row_from" s_row_from, dF "is_integer" s_is_integer, dF "_need_side" s__need_side, dF "side_after" s_side_after, dF "is_place" s_is_place, dF "_is_circle" s__is_circle, dF "_check_ties" s__check_ties, dF "_closes" s__closes, dF "_check_faces" s__check_faces, dF "_has_row" s__has_row, dF "_is_whole" s__is_whole, dF "lets_plan" s_lets_plan, dF "is_plan" s_is_plan, dF "_law_mixed" s__law_mixed, dF "_law_pool" s__law_pool, dF "_law_take" s__law_take, dF "_law_told" s__law_told, dF "_law_part" s__law_part, dF "_law_grow" s__law_grow, dF "_law_start" s__law_start, dF "_law_whole" s__law_whole, dF "_law_circle" s__law_circle, dF "_law_after" s__law_after, dF "_law_ahead" s__law_ahead, dF "_law_corner" s__law_corner, dF "_law_edge" s__law_edge, dF "_law_hangs" s__law_hangs, dF "_law_fault" s__law_fault, dF "_law_odd" s__law_odd, dF "_law_few" s__law_few, dF "_law_swapped" s__law_swapped, dF "_law_mirror" s__law_mirror, dF "_law_changed" s__law_changed, dF "_law_ask" s__law_ask, dF "_law_like" s__law_like, dF "_law_right" s__law_right, dF "law" s_law, dI "InvalidPaper" "InvalidPaper.__init__" i_InvalidPaper, dI "NotUsable" "NotUsable.__init__" i_NotUsable]
def xfr : List Str := (["ValueError", "abs", "all", "bool", "enumerate", "int", "isinstance", "len", "list", "min", "range", "set", "str", "tuple"] : List Str)
def xbl : List (Str × String) := []
def xgl : List Str := (["after", "ahead", "row_from", "is_integer", "_need_side", "side_after", "is_place", "_is_circle", "_check_ties", "_closes", "_check_faces", "_has_row", "_is_whole", "lets_plan", "is_plan", "_law_mixed"] : List Str) ++ (["_law_pool", "_law_take", "_law_told", "_law_part", "_law_grow", "_law_start", "_law_whole", "_law_circle", "_law_after", "_law_ahead", "_law_corner", "_law_edge", "_law_hangs", "_law_fault", "_law_odd", "_law_few"] : List Str) ++ (["_law_swapped", "_law_mirror", "_law_changed", "_law_ask", "_law_like", "_law_right", "law", "HangError", "PaperError", "PlanError", "InvalidPaper", "NotUsable"] : List Str)
def xex : List (Str × Str × Bool) := [("InvalidPaper", "InvalidPaper", true), ("NotUsable", "NotUsable", true)]
def xer : List (Str × List Str) := [("InvalidPaper", ["word", "at"]), ("NotUsable", ["word", "at"])]
def xec : List Str := ["InvalidPaper"]
def xki : List (Str × Str × Bool) := [("InvalidPaper", "HangError", true), ("InvalidPaper", "NotUsable", false), ("InvalidPaper", "PaperError", true), ("InvalidPaper", "PlanError", false)]
def xkb : List (Str × String × Bool) := [("InvalidPaper", "ValueError", true)]
def ex (K : PySem.W.Frag) : Bool := (freeB xfr K && (bltB xbl K && (gloB xgl K && exmB xex K))) && (xer.all (fun p => errB p.1 p.2 K) && (xec.all (fun x => excB K (He.ga K x)) && (kioB xki K && kibB xkb K)))
abbrev R : PySem.W.OpenRow := PySem.W.OpenLaw.row PySem.Challenge.rw_hungwall_k02_whole_lets_plan
abbrev hk : PySem.W.Hook := hookM 4 fn ex
def ob (s : PySem.W.SharedT) : AlM := obsM 4 fn ex (HandSHeadRun.getT s)
theorem ob_eq (s : PySem.W.SharedT) : ob s = hk.obs s.abs := obsM_eq (HandSHeadRun.getT_eq s)
def loose0 : List Str := ["__name__", "after", "ahead", "row_from", "HangError", "PaperError", "PlanError", "InvalidPaper", "NotUsable", "is_integer", "side_after", "is_place", "_need_side", "lets_plan", "is_plan", "_is_circle"]
def loose1 : List Str := ["_check_ties", "_check_faces", "_closes", "_has_row", "_is_whole", "_law_mixed", "_law_pool", "_law_take", "_law_told", "_law_part", "_law_grow", "_law_start", "_law_whole", "_law_circle", "_law_after", "_law_ahead"]
def loose2 : List Str := ["_law_corner", "_law_edge", "_law_hangs", "_law_fault", "_law_odd", "_law_few", "_law_swapped", "_law_mirror", "_law_changed", "_law_ask", "_law_like", "_law_right"]
def loose : List Str := loose0 ++ loose1 ++ loose2
theorem run (w : World) : HandSHeadRun.RunEq R (PySem.W.view R.prog [49]) hk ob 6000 loose w := by
  intro os
  kernel_rfl
end LawM
end
section
set_option Elab.async false
set_option linter.all false
set_option maxRecDepth 100000
set_option maxHeartbeats 4000000
/-! the facts -/
namespace LawM
open PySem PySem.Spec PyProof.Rows L2 MP
variable {P : Program} {w : World} {K : PySem.W.Frag} {mg : Str → Option Value} {h base : Heap}
theorem fun_at (c : SaysM fn ex K) (i : Nat) {x : Str} {st : Stmt} (e : fn[i]? = some (dF x st) := by rfl) : ∃ fd, Fun K x x st (He.ga K x) fd := by
  obtain ⟨fd, F⟩ := c.defs.def_ i (d := dF x st) e
  exact ⟨fd, fun_of F⟩
theorem facts (X : K.In h) (G : h.Ns mainGlobals mg) (c : SaysM fn ex K) : Ft P w K mg base := by
  have m := c.more
  unfold ex at m
  simp only [Bool.and_eq_true] at m
  obtain ⟨⟨m1, m2, m3, m4⟩, m5, m6, m7, m8⟩ := m
  exact {
    fr_ValueError := free_of X G m1 (by decide)
    fr_abs := free_of X G m1 (by decide)
    fr_all := free_of X G m1 (by decide)
    fr_bool := free_of X G m1 (by decide)
    fr_enumerate := free_of X G m1 (by decide)
    fr_int := free_of X G m1 (by decide)
    fr_isinstance := free_of X G m1 (by decide)
    fr_len := free_of X G m1 (by decide)
    fr_list := free_of X G m1 (by decide)
    fr_min := free_of X G m1 (by decide)
    fr_range := free_of X G m1 (by decide)
    fr_set := free_of X G m1 (by decide)
    fr_str := free_of X G m1 (by decide)
    fr_tuple := free_of X G m1 (by decide)
    g_after := glo_of X G m3 (by decide)
    g_ahead := glo_of X G m3 (by decide)
    g_row_from := glo_of X G m3 (by decide)
    g_is_integer := glo_of X G m3 (by decide)
    g__need_side := glo_of X G m3 (by decide)
    g_side_after := glo_of X G m3 (by decide)
    g_is_place := glo_of X G m3 (by decide)
    g__is_circle := glo_of X G m3 (by decide)
    g__check_ties := glo_of X G m3 (by decide)
    g__closes := glo_of X G m3 (by decide)
    g__check_faces := glo_of X G m3 (by decide)
    g__has_row := glo_of X G m3 (by decide)
    g__is_whole := glo_of X G m3 (by decide)
    g_lets_plan := glo_of X G m3 (by decide)
    g_is_plan := glo_of X G m3 (by decide)
    g__law_mixed := glo_of X G m3 (by decide)
    g__law_pool := glo_of X G m3 (by decide)
    g__law_take := glo_of X G m3 (by decide)
    g__law_told := glo_of X G m3 (by decide)
    g__law_part := glo_of X G m3 (by decide)
    g__law_grow := glo_of X G m3 (by decide)
    g__law_start := glo_of X G m3 (by decide)
    g__law_whole := glo_of X G m3 (by decide)
    g__law_circle := glo_of X G m3 (by decide)
    g__law_after := glo_of X G m3 (by decide)
    g__law_ahead := glo_of X G m3 (by decide)
    g__law_corner := glo_of X G m3 (by decide)
    g__law_edge := glo_of X G m3 (by decide)
    g__law_hangs := glo_of X G m3 (by decide)
    g__law_fault := glo_of X G m3 (by decide)
    g__law_odd := glo_of X G m3 (by decide)
    g__law_few := glo_of X G m3 (by decide)
    g__law_swapped := glo_of X G m3 (by decide)
    g__law_mirror := glo_of X G m3 (by decide)
    g__law_changed := glo_of X G m3 (by decide)
    g__law_ask := glo_of X G m3 (by decide)
    g__law_like := glo_of X G m3 (by decide)
    g__law_right := glo_of X G m3 (by decide)
    g_law := glo_of X G m3 (by decide)
    f_after := fun_at c 0
    f_ahead := fun_at c 1
    f_row_from := fun_at c 2
    f_is_integer := fun_at c 3
    f__need_side := fun_at c 4
    f_side_after := fun_at c 5
    f_is_place := fun_at c 6
    f__is_circle := fun_at c 7
    f__check_ties := fun_at c 8
    f__closes := fun_at c 9
    f__check_faces := fun_at c 10
    f__has_row := fun_at c 11
    f__is_whole := fun_at c 12
    f_lets_plan := fun_at c 13
    f_is_plan := fun_at c 14
    f__law_mixed := fun_at c 15
    f__law_pool := fun_at c 16
    f__law_take := fun_at c 17
    f__law_told := fun_at c 18
    f__law_part := fun_at c 19
    f__law_grow := fun_at c 20
    f__law_start := fun_at c 21
    f__law_whole := fun_at c 22
    f__law_circle := fun_at c 23
    f__law_after := fun_at c 24
    f__law_ahead := fun_at c 25
    f__law_corner := fun_at c 26
    f__law_edge := fun_at c 27
    f__law_hangs := fun_at c 28
    f__law_fault := fun_at c 29
    f__law_odd := fun_at c 30
    f__law_few := fun_at c 31
    f__law_swapped := fun_at c 32
    f__law_mirror := fun_at c 33
    f__law_changed := fun_at c 34
    f__law_ask := fun_at c 35
    f__law_like := fun_at c 36
    f__law_right := fun_at c 37
    f_law := fun_at c 38
    x_InvalidPaper := exm_of m4 (by decide)
    e_InvalidPaper := by
      obtain ⟨fd, F⟩ := c.defs.def_ 39 (d := dI "InvalidPaper" "InvalidPaper.__init__" i_InvalidPaper) rfl
      have F := fun_of (x := "__init__") (q := "InvalidPaper.__init__") (st := i_InvalidPaper) (f := He.ma K (He.ga K "InvalidPaper") "__init__") F
      have E := errB_ok (all_at m5 (x := ("InvalidPaper", ["word", "at"])) (by decide))
      exact ⟨PySem.W.mg_of X G E.ns, E, fd, ini2 F sci_InvalidPaper E ⟨_, _, _, _, _, _, _, _, rfl⟩, F.binds fun _ _ _ _ _ _ us hl => match us, hl with | [_, _, _], _ => rfl⟩
    x_NotUsable := exm_of m4 (by decide)
    e_NotUsable := by
      obtain ⟨fd, F⟩ := c.defs.def_ 40 (d := dI "NotUsable" "NotUsable.__init__" i_NotUsable) rfl
      have F := fun_of (x := "__init__") (q := "NotUsable.__init__") (st := i_NotUsable) (f := He.ma K (He.ga K "NotUsable") "__init__") F
      have E := errB_ok (all_at m5 (x := ("NotUsable", ["word", "at"])) (by decide))
      exact ⟨PySem.W.mg_of X G E.ns, E, fd, ini2 F sci_NotUsable E ⟨_, _, _, _, _, _, _, _, rfl⟩, F.binds fun _ _ _ _ _ _ us hl => match us, hl with | [_, _, _], _ => rfl⟩
    gc_HangError := glo_of X G m3 (by decide)
    gc_InvalidPaper := glo_of X G m3 (by decide)
    gc_NotUsable := glo_of X G m3 (by decide)
    gc_PaperError := glo_of X G m3 (by decide)
    gc_PlanError := glo_of X G m3 (by decide)
    xc_InvalidPaper := excB_ok (all_at m6 (x := ("InvalidPaper" : Str)) (by decide))
    ki_InvalidPaper_HangError := kioB_ok m7 (by decide)
    ki_InvalidPaper_NotUsable := kioB_ok m7 (by decide)
    ki_InvalidPaper_PaperError := kioB_ok m7 (by decide)
    ki_InvalidPaper_PlanError := kioB_ok m7 (by decide)
    ki_InvalidPaper_ValueError := kibB_ok m8 (by decide)
  }
end LawM
end
section
set_option Elab.async false
set_option linter.all false
set_option maxRecDepth 100000
set_option maxHeartbeats 0
/-! the end -/
namespace LawM
open PySem PySem.W PySem.Calls PySem.Spec PyProof.Rows L2 MP
theorem fun_same {K : PySem.W.Frag} {x q : Str} {st : Stmt} {f : Addr} {fd fd' : FuncData} (a : Fun K x q st f fd) (b : Fun K x q st f fd') : fd = fd' := by
  obtain ⟨⟨oc, od, kV, doc, pm, an, cdv, ct, osl, e, lk, hcd⟩, _⟩ := a
  obtain ⟨⟨oc', od', kV', doc', pm', an', cdv', ct', osl', e', lk', hcd'⟩, _⟩ := b
  rw [lk] at lk'
  cases lk'
  rfl
theorem binds_all {K : PySem.W.Frag} {x : Str} {st : Stmt} {f : Addr} {fd : FuncData} {ps : List Str} (F : Fun K x x st f fd) (hb : BindOk x st ps) (s : Shared) (us : List Value) (h : us.length = ps.length) : BindsTo s fd ⟨us, []⟩ (ps.zip us) := by
  obtain ⟨oc, od, kV, doc, pm', an, cdv, ct, osl, rfl, lk, hcd⟩ := F.ex
  exact .of_eq (hb kV doc pm' an cdv ct us h)
theorem ends (pure : ∀ ns : List Int, ns.length ≤ 63 → (∀ z ∈ ns, Builtin.Int.intBits z ≤ 1048576) → ∃ S, rf_law [.frl (ns.map D.int)] [] = .ok (.bl true) S) : PySem.Challenge.rw_hungwall_k02_whole_lets_plan.Holds := by
  w_on; o_law
  refine HandSHeadRun.head_any (r := OpenLaw.row PySem.Challenge.rw_hungwall_k02_whole_lets_plan) (q := view (OpenLaw.row PySem.Challenge.rw_hungwall_k02_whole_lets_plan).prog [49]) (H := hk) (ob := ob) (M := 6000) (loose := loose) (d := HandSHeadRun.topDef (OpenLaw.row PySem.Challenge.rw_hungwall_k02_whole_lets_plan).prog 49) (kwd := []) ob_eq
    (by kernel_rfl) (fun s => by kernel_rfl) run (by kernel_rfl) (by kernel_rfl) (by kernel_rfl) (by rfl) (by first | assumption | decide +kernel) (by decide +kernel) ⟨rfl, rfl, rfl, rfl, rfl, by decide +kernel⟩ ?hw ?hc
  case hw => w_witness2
  case hc =>
    refine walk_bits (l := PySem.Challenge.rw_hungwall_k02_whole_lets_plan) (n := 63) (k := 10) (x := "_law_script") rfl (by decide) (by kernel_rfl) ⟨rfl, by decide, by decide⟩ ?F
    intro w mg fa h Y G hmg0
    obtain ⟨K, KX, c⟩ := Y
    have hmg : mg ("law" : PySem.Str) = some (.ref fa) := by
      have e : (HandSHeadRun.topDef (OpenLaw.row PySem.Challenge.rw_hungwall_k02_whole_lets_plan).prog 49).name = ("law" : PySem.Str) := by kernel_rfl
      rw [← e]
      exact hmg0
    have Z0 := fun base => facts (P := (PySem.Challenge.rw_hungwall_k02_whole_lets_plan).prog) (w := w) (base := base) KX G c
    obtain ⟨gm, fd, F, ok0, bd⟩ := ok_law (Z0 h)
    have e := hmg.symm.trans gm
    cases e
    refine ⟨K, fd, spEv ⟨K, mg, none⟩ 1 rf_law, KX, fun s u => binds_all (ps := ["_law_script"]) F (fun _ _ _ _ _ _ us hl => match us, hl with | [_], _ => rfl) s [u] rfl, fun H a ns hl hb hO hS => law_sp hO hS (pure ns hl hb), fun base hB hG => ?_⟩
    obtain ⟨gm2, fd2, F2, ok2, bd2⟩ := ok_law (Z0 base)
    have e2 : fd2 = fd := fun_same F2 F
    subst e2
    exact ok2
end LawM
end
section
set_option Elab.async false
set_option linter.all false
set_option maxRecDepth 100000
set_option maxHeartbeats 2000000
/-! L13: the law. -/
namespace LawM
open PySem PySem.Spec PyProof.Rows L2 MP
theorem tkV {i : Nat} {n : Nat} {S : Sto} {ρ : MP.Env} {e : Ev} {m : Nat} (P : Pool n S) (h0 : ρ[i]? = some (some (.lst 1))) (he : e ρ S = .ok (.int (m : Int)) S) (hm : 0 < m) (hm2 : m < 2 ^ 60) (hn : n < 2 ^ 60) :
    ∃ (r : Nat) (S' : Sto), eCall 2 rf__law_take (aCons (eVar i) (aCons e aNil)) ρ S = .ok (.int (r : Int)) S' ∧ r < m ∧ Pool (n + 1) S' ∧ Ext2 S S' := by
  obtain ⟨C, P, R, rfl, h⟩ := P
  obtain ⟨r, C', P', e1, e2, e3⟩ := take_is C P n m R h hm hm2 hn
  refine ⟨r, C' :: P' :: R, by rw [call2 (var_ok h0) he, e1], e2, ⟨C', P', R, rfl, e3⟩, ⟨by simp, fun i h2 hi => ?_⟩⟩
  match i, h2 with
  | i + 2, _ => rfl
theorem told_sh {n : Nat} {Y : Nat → List Int} (h : Sym n Y) (h1 : 1 ≤ n) (hn : n ≤ 80) : ShOk (toldS n Y) := by
  have hl : (toldS n Y).length = n := by unfold toldS; simp
  refine ⟨by omega, fun c hc => ?_⟩
  unfold toldS at hc
  obtain ⟨i, hi, rfl⟩ := List.mem_map.mp hc
  have hi := List.mem_range.mp hi
  have h3 := h.len i hi
  have h4 := row_len h hi
  have e : (toldC (Y i)).length = (Y i).length := rot_len _ _
  refine ⟨by omega, by omega, fun p hp => ?_⟩
  have hp : p ∈ Y i := (List.Perm.mem_iff (rot_perm _ _)).mp hp
  rw [hl]
  exact ⟨h.lo i hi p hp, h.hi i hi p hp⟩
/-- so many takings -/
theorem lc_takes {ρ : MP.Env} {i v : Nat} (hi : ∀ d, (ρ.set v (some d))[i]? = some (some (.lst 1))) : ∀ (xs acc : List D) (S : Sto) (N : Nat), acc.length + xs.length ≤ 1000 → Pool N S → N + xs.length < 2 ^ 50 →
    ∃ (ps : List Nat) (S' : Sto), lcLoop (fun _ => True) (bName v) tTrue (eCall 2 rf__law_take (aCons (eVar i) (aCons (eC (.int 14)) aNil))) ρ xs acc S = .ok (acc ++ ps.map fun p : Nat => D.int p) S' ∧ ps.length = xs.length ∧ (∀ p ∈ ps, p < 14) ∧ Pool (N + xs.length) S' ∧ Ext2 S S'
  | [], acc, S, N, _, P, _ => ⟨[], S, by rw [lc_nil trivial]; simp, rfl, by simp, P, Ext2.refl _⟩
  | x :: xs, acc, S, N, hl, P, hN => by
    simp only [List.length_cons] at hl hN
    obtain ⟨r, S1, t, l, P1, x1⟩ := tkV (i := i) (e := eC (.int 14)) (ρ := ρ.set v (some x)) (m := 14) P (hi x) c_ok (by omega) (by omega) (by omega)
    obtain ⟨ps, S2, e, h1, h2, h3, h4⟩ := lc_takes hi xs (acc ++ [.int (r : Nat)]) S1 (N + 1) (by simp; omega) P1 (by omega)
    refine ⟨r :: ps, S2, ?_, by simp [h1], fun p hp => ?_, h3.mono (by simp; omega), x1.trans h4⟩
    · rw [lc_cons trivial rfl rfl t (by omega), e]
      simp
    · rcases List.mem_cons.mp hp with rfl | hp
      · exact l
      · exact h2 p hp
theorem law_ok {ns : List Int} (hb : ∀ z ∈ ns, Bt z 2000000) : ∃ S, rf_law [.frl (ns.map D.int)] [] = .ok (.bl true) S := by
  obtain ⟨P0, e0, hP⟩ := pool_ok hb
  have P : Pool 0 [ns.map D.int, P0] := ⟨_, _, [], rfl, hP⟩
  unfold rf_law runDef ev_law
  rw [show begins 9 [D.frl (ns.map D.int)] = [some (.frl (ns.map D.int)), none, none, none, none, none, none, none, none] from rfl]
  rw [seq_next (ret_asg ((call1 (var_ok rfl)).trans e0))]
  simp only [List.set_cons_zero, List.set_cons_succ]
  generalize [ns.map D.int, P0] = S at P
  generalize some (D.frl (ns.map D.int)) = p0
  obtain ⟨q, S1, t1, l1, P1, x1⟩ := tkV (i := 1) (e := eC (.int 2)) (ρ := [p0, some (.lst 1), none, none, none, none, none, none, none]) (m := 2) P rfl c_ok (by omega) (by omega) (by omega)
  rw [seq_next (ret_asg (eq_ok t1 (c_ok (d := .int 1))))]
  simp only [List.set_cons_zero, List.set_cons_succ]
  generalize decide ((q : Int) = 1) = nm
  obtain ⟨c0, S2, t2, l2, P2, x2⟩ := tkV (i := 1) (e := eC (.int 8)) (ρ := [p0, some (.lst 1), some (.bl nm), none, none, none, none, none, none]) (m := 8) P1 rfl c_ok (by omega) (by omega) (by omega)
  rw [seq_next (ret_asg t2)]
  simp only [List.set_cons_zero, List.set_cons_succ]
  obtain ⟨q2, S3, t3, l3, P3, x3⟩ := tkV (i := 1) (e := eC (.int 16)) (ρ := [p0, some (.lst 1), some (.bl nm), some (.int (c0 : Nat)), none, none, none, none, none]) (m := 16) P2 rfl c_ok (by omega) (by omega) (by omega)
  have i3 : ∃ c : Nat, c ≤ 34 ∧ sIf (eTest (eB dEq (eCall 2 rf__law_take (aCons (eVar 1) (aCons (eC (.int 16)) aNil))) (eC (.int 15)))) (sAsg 3 (eC (.int 34))) sSkip [p0, some (.lst 1), some (.bl nm), some (.int (c0 : Nat)), none, none, none, none, none] S2 = .next [p0, some (.lst 1), some (.bl nm), some (.int (c : Nat)), none, none, none, none, none] S3 := by
    have tt := test_ok (eq_ok t3 (c_ok (d := .int 15)))
    by_cases hq : (q2 : Int) = 15
    · rw [decide_eq_true hq] at tt
      exact ⟨34, by omega, (if_t tt).trans (ret_asg c_ok)⟩
    · rw [decide_eq_false hq] at tt
      exact ⟨c0, by omega, if_s tt⟩
  obtain ⟨c, hc, i3⟩ := i3
  rw [seq_next i3]
  clear t1 t2 t3 i3 x1 x2 x3 e0
  obtain ⟨S4, lo, rs, sh0, e4, ⟨R4, q4⟩, hsy, ⟨n1, n2⟩, P4⟩ := start_ok P3 (by omega)
  rw [seq_next (ret_asg ((call1 (F := rf__law_start) (var_ok (i := 1) (d := .lst 1) rfl)).trans e4))]
  simp only [List.set_cons_zero, List.set_cons_succ]
  obtain ⟨S5, rs5, Y, n, e5, R5, hl5, hY, h1, h2, P5⟩ := grow_ok (c := c) R4 q4 (symB_ok hsy) n1 (by omega) P4 (by omega)
  obtain ⟨G, e6⟩ := told_ok R5 hl5 (fun i hi => ⟨fun z => by have := hY.len i hi; rw [z] at this; simp at this, by have := row_len hY hi; omega⟩) (by omega)
  rw [seq_next (ret_asg ((call1 ((call3 (F := rf__law_grow) (var_ok (i := 1) (d := .lst 1) rfl) (var_ok (i := 4) (d := .lst lo) rfl) (var_ok (i := 3) (d := .int (c : Nat)) rfl)).trans e5)).trans e6))]
  simp only [List.set_cons_zero, List.set_cons_succ]
  have hsh := told_sh hY h1 (by omega)
  generalize toldS n Y = sh at hsh
  have P6 := P5.app G
  generalize S5 ++ G = S6 at P6
  clear e4 e5 e6 R4 R5 P4 P5 hsy hY
  rw [if_no (not_b (test_ok ((call2 (F := rf__law_right) (var_ok (i := 5) (d := dsh sh) rfl) (var_ok (i := 2) (d := .bl nm) rfl)).trans (right_ok (vp_dsh hsh))))) rfl]
  -- the picks
  have ek : eB dSub (eC (.int 8)) (eB dDiv (eVar 3) (eC (.int 7))) [p0, some (.lst 1), some (.bl nm), some (.int (c : Nat)), some (.lst lo), some (dsh sh), none, none, none] S6 = .ok (.int ((8 - c / 7 : Nat) : Int)) S6 := by
    refine (sub_ok (S2 := S6) (x := 8) (y := ((c / 7 : Nat) : Int)) c_ok (b_ok (var_ok (d := .int (c : Nat)) rfl) c_ok ?_)).trans ?_
    · have d1 : CDivA (c : Int) 7 := ⟨by decide, by decide⟩
      have e : dDiv (.int (c : Nat)) (.int 7) S6 = some (.int ((c : Int).fdiv 7), S6) := by
        unfold dDiv MP.dI
        simp [d1]
      rw [e, Int.fdiv_eq_ediv_of_nonneg _ (by decide)]
      rfl
    · rw [show (8 : Int) - ((c / 7 : Nat) : Int) = ((8 - c / 7 : Nat) : Int) by omega]
  generalize hm : 8 - c / 7 = m at ek
  obtain ⟨ps, S7, e7, q1, q2, P7, x7⟩ := lc_takes (i := 1) (v := 7) (ρ := [p0, some (.lst 1), some (.bl nm), some (.int (c : Nat)), some (.lst lo), some (dsh sh), none, none, none]) (fun d => rfl) (rngL 0 m) [] S6 _ (by rw [rngL_length]; simp; omega) P6 (by rw [rngL_length]; omega)
  rw [List.nil_append] at e7
  rw [seq_next (ret_asg (lc_rng (vs := [7]) ek (by omega) e7))]
  simp only [List.set_cons_zero, List.set_cons_succ]
  have P8 := P7.app [ps.map fun p : Nat => D.int p]
  have at8 := at_end S7 (ps.map fun p : Nat => D.int p)
  have b8 := pool_len P7
  rw [rngL_length] at q1 P8
  generalize S7 ++ [ps.map fun p : Nat => D.int p] = S8 at P8 at8
  generalize S7.length = l8 at at8 b8
  clear e7 x7 P7 ek
  have e9 : eB dAdd (eVar 6) (eLst (aCons (eC (.int 7)) aNil)) [p0, some (.lst 1), some (.bl nm), some (.int (c : Nat)), some (.lst lo), some (dsh sh), some (.lst l8), none, none] S8 = .ok (.lst (S8.length + 1)) (S8 ++ [[.int 7]] ++ [(ps ++ [7]).map fun p : Nat => D.int p]) := by
    refine (b_ok (var_ok rfl) (lst1 (x := .int 7) fun S => c_ok) (add_lst (xs := ps.map fun p : Nat => D.int p) (ys := [.int 7]) ?_ (at_end _ _) (by simp; omega))).trans ?_
    · rw [List.getElem?_append_left (List.getElem?_eq_some_iff.mp at8).1]
      exact at8
    · simp
  have h14 : ∀ p ∈ ps ++ [7], p < 14 := fun p hp => by
    rcases List.mem_append.mp hp with z | z
    · exact q2 p z
    · simp at z
      omega
  have at9 : (S8 ++ [[.int 7]] ++ [(ps ++ [7]).map fun p : Nat => D.int p])[S8.length + 1]? = some ((ps ++ [7]).map fun p : Nat => D.int p) := by
    have := at_end (S8 ++ [[.int 7]]) ((ps ++ [7]).map fun p : Nat => D.int p)
    rwa [List.length_append] at this
  have P9 := (P8.app [[.int 7]]).app [(ps ++ [7]).map fun p : Nat => D.int p]
  have b9 : 2 ≤ S8.length + 1 := by have := pool_len P8; omega
  have hpl : (ps ++ [7]).length ≤ 9 := by simp; omega
  generalize S8 ++ [[.int 7]] ++ [(ps ++ [7]).map fun p : Nat => D.int p] = S9 at e9 at9 P9
  generalize S8.length + 1 = l9 at e9 at9 b9
  generalize ps ++ [7] = qs at h14 at9 hpl
  generalize hM : 0 + 1 + 1 + 1 + 2 + 4 * c + m = M at P9
  have hM2 : M ≤ 200 := by omega
  obtain ⟨ρ', S', e1, ⟨x8, e2⟩, e3, e4⟩ := for_all (st := fun S' => S'[l9]? = some (qs.map fun p : Nat => D.int p)) (b := bName 8) (body := (sIf (eNotT (eTest (eCall 2 rf__law_right (aCons (eCall 3 rf__law_changed (aCons (eVar 1) (aCons (eVar 5) (aCons (eVar 8) aNil)))) (aCons (eVar 2) aNil)))))
 (sRet (eC (.bl false)))
 sSkip)) (fun k ρ S' => (∃ x8, ρ = [p0, some (.lst 1), some (.bl nm), some (.int (c : Nat)), some (.lst lo), some (dsh sh), some (.lst l8), none, x8]) ∧ S'[l9]? = some (qs.map fun p : Nat => D.int p) ∧ (k ≤ 9 → Pool (M + 8 * k) S')) (fun i ρ S' hI => hI.2.1) (qs.map fun p : Nat => D.int p) [p0, some (.lst 1), some (.bl nm), some (.int (c : Nat)), some (.lst lo), some (dsh sh), some (.lst l8), none, none] S9 (fun k x ρ S' hx hI => by
      obtain ⟨⟨x8, rfl⟩, hat, hP⟩ := hI
      rw [List.getElem?_map] at hx
      cases hq : qs[k]? with
      | none => rw [hq] at hx; cases hx
      | some p =>
        rw [hq] at hx
        cases hx
        have hk := (List.getElem?_eq_some_iff.mp hq).1
        obtain ⟨v, S2, e, hv, P2, K2⟩ := changed_ok hsh (hP (by omega)) (by omega) p (h14 p (List.mem_of_getElem? hq))
        refine ⟨_, _, S2, rfl, if_s (not_b (test_ok (b := true) ?_)), ⟨_, rfl⟩, ?_, fun _ => P2.mono (by omega)⟩
        · exact (call2 ((call3 (var_ok rfl) (var_ok rfl) (var_ok rfl)).trans e) (var_ok rfl)).trans (right_ok hv)
        · rw [K2 l9 b9 (List.getElem?_eq_some_iff.mp hat).1]
          exact hat) ⟨⟨_, rfl⟩, at9, fun _ => P9⟩
  subst e2
  rw [seq_next (for_lst e9 at9 e1), ret_ret c_ok]
  exact ⟨S', rfl⟩
theorem all : PySem.Challenge.rw_hungwall_k02_whole_lets_plan.Holds := ends fun ns _ hb => law_ok fun z hz => bits_bt (hb z hz)
end LawM
end
set_option maxRecDepth 100000 in
set_option maxHeartbeats 0 in
theorem PySem.Challenge.cw_hungwall_k02_whole_lets_plan_holds : PySem.Challenge.rw_hungwall_k02_whole_lets_plan.Holds := by
  exact LawM.all
