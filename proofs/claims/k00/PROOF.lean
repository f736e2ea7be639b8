import PyProof.Rows.All
import Wide.All
import OpenK.AllK
import Wide.FinOn
import PySem.Challenge.RW_hungwall_k00_kinds_quotients_places
import HandS.ForMost
import HandS.ForExc
import HandS.ExcInit
import HandS.Gcd
import HandS.IsInst
import HandS.Wide
import HandS.Zip
import HandS.Style
import HandS.EndBits
import HandS.TupAny
import HandS.More
import HandS.MakeKw
import HandS.ExcField
import HandS.Defaults
import HandS.HeadEnd
import HandS.HeadHook1
import HandS.HeadHook2
import HandS.HeadHook4
import HandS.Head0
import HandS.Head1
import HandS.Head2
import HandS.Walk
import HandS.SetFor
import HandS.Conv
import KE.GoesEnum
import KE.DatumOrd
import HandS.ExcIs
import KE.KIndexOf
import HandS.Dict
import HandS.DictComp
import HandS.Small
import HandS.TupLe
import HandS.Remove
import HandS.SortInts
import HandS.Sort
import HandS.Iter
import HandS.NoneIn
import HandS.Flow
import HandS.HotCalls
import HandS.Head3
import Lean
section
set_option Elab.async false
set_option linter.all false
set_option maxRecDepth 100000
set_option maxHeartbeats 4000000

/-! MPT: tuples of which it is known that they have no dict of their own. -/
namespace MP
open PySem PySem.Spec PyProof.Rows L2
/-- a tuple without a dict -/
def SqN (K : PySem.W.Frag) (H : Hp) (a : Addr) (xs : List V) : Prop :=
  (∃ o : Obj, o.dict = none ∧ H a = some (.frz o (.tup xs))) ∨
    ∃ (o : Obj) (its : Array Value) (n : Nat), o.dict = none ∧ K.lookup a = some o ∧ o.cls = .type "tuple" ∧ o.data = .seq its n ∧ its.size ≤ sizeLine ∧ Vals xs its.toList
theorem SqN.sq {K : PySem.W.Frag} {H : Hp} {a : Addr} {xs : List V} (h : SqN K H a xs) : SqT K H a xs := by
  rcases h with ⟨o, _, h⟩ | ⟨o, its, n, _, h1, h2, h3, h4, h5⟩
  · exact .inl (.inr ⟨o, h⟩)
  · exact .inr ⟨o, its, n, h1, h2, h3, h4, h5⟩
section
variable {X : Cx} {pins : List (Addr × Obj)} {σ : L2.St} {H : Hp} {s : Shared}
theorem SqN.bare (I : Inv X pins σ H s) {a : Addr} {xs : List V} (h : SqN X.K H a xs) : ∃ o, s.heap.get? a = some o ∧ o.dict = none := by
  rcases h with ⟨o, h1, h2⟩ | ⟨o, its, n, h1, h2, _⟩
  · have ok : ObjOk X.prog X.w H s.heap a (.frz o (.tup xs)) := I.hok a _ h2
    exact ⟨o, ok.1, h1⟩
  · exact ⟨o, I.kIn a o h2, h1⟩
/-- a new tuple is laid down -/
theorem laidN {xs : List V} {its : List Value} {t' : Nat} (I : Inv X pins σ H s) (z : xs.length ≤ sizeLine) (r : Vals xs its) :
    Inv X pins σ (upd H s.heap.objs.size (.frz { cls := .type "tuple", data := .seq its.toArray } (.tup xs))) { s with heap := s.heap.push { cls := .type "tuple", data := .seq its.toArray }, toks := t' } :=
  I.laid (fun b u e => Heap.get?_push_of_some _ e) (Nat.le_refl _) ⟨Heap.get?_push_size _ rfl, z, its, r, IsTup.new _ _⟩
def NewT (Q : VK) (H : Hp) (xs : List V) : Prop := ∀ (p : Addr) (o : Obj), H p = none → o.dict = none → Q (.ref p) (upd H p (.frz o (.tup xs)))
theorem newN {xs : List V} {its : List Value} {t' : Nat} {Q : VK} (I : Inv X pins σ H s) (z : xs.length ≤ sizeLine) (r : Vals xs its) (q : NewT Q H xs) :
    EP X pins σ Q (.ref s.heap.objs.size) { s with heap := s.heap.push { cls := .type "tuple", data := .seq its.toArray }, toks := t' } :=
  ⟨.ref s.heap.objs.size, _, laidN I z r, rfl, q _ _ (I.hok.fresh (Nat.le_refl _)) rfl⟩
def tTupN (t : TA) : TE := fun σ H Q => t σ H fun xs H1 => xs.length ≤ sizeLine ∧ NewT Q H1 xs
theorem pe_tupN {es : List Expr} {t : TA} {pos : Pos} {x1 : Nat} (h : PA X es t) : PE X (.Tuple es x1 pos) (tTupN t) :=
  ⟨fun pins s σ H Q I hq => wpAny_Tuple_spliced (thn (h.run pos pins s σ H _ I hq) fun us s1 ⟨xs, H1, I1, r, z, q⟩ => ⟨by rw [← r.length]; exact z, newN I1 z r q⟩)⟩
theorem call_tupleN : CallR X (.type "tuple") (fun xs H Q => ∃ p ys, xs = [.ref p] ∧ ((SqL X.K H p ys ∧ NewT Q H ys) ∨ (SqT X.K H p ys ∧ Q (.ref p) H))) := by
  intro pins s σ H xs us Q I r h
  obtain ⟨p, ys, rfl, h⟩ := h
  obtain ⟨u, rfl, rx⟩ := vals1 r
  cases rx
  rcases h with ⟨hq, q⟩ | ⟨hq, q⟩
  · obtain ⟨its, r', pl, hz⟩ := I.list hq
    have hn := r'.length
    refine call_tuple_list pl.isList (fun h' kp => ?_) (by simp only [List.size_toArray] <;> omega)
    exact newN (s := { s with heap := h' }) (I.kept (t' := s.toks) kp) hz r' q
  · obtain ⟨its, r', pl, hz⟩ := I.tuple hq
    exact call_tuple_same pl ⟨.ref p, H, I, rfl, q⟩
def rCatN (K : PySem.W.Frag) : R2 := fun x y H Q => ∃ a b xs ys, x = .ref a ∧ y = .ref b ∧ SqT K H a xs ∧ SqT K H b ys ∧ xs.length + ys.length ≤ sizeLine ∧
  (xs = [] → Q (.ref b) H) ∧ (xs ≠ [] → ys = [] → Q (.ref a) H) ∧ (xs ≠ [] → ys ≠ [] → NewT Q H (xs ++ ys))
theorem op_catN : OpR X (binaryOp .Add) (rCatN X.K) := by
  intro pins s σ H x y v u Q I rx ry h
  obtain ⟨a, b, xs, ys, rfl, rfl, ha, hb, hz, q0, q1, q2⟩ := h
  by_cases hx : xs = []
  · exact op_catA pins s σ H _ _ v u Q I rx ry ⟨a, b, xs, ys, rfl, rfl, ha, hb, hz, q0, fun n => absurd hx n, fun n => absurd hx n⟩
  · cases rx
    cases ry
    obtain ⟨its, r1, p1, _⟩ := I.tuple ha
    obtain ⟨its2, r2, p2, _⟩ := I.tuple hb
    refine HT.cat_tup p1 p2 (fun z => hx (r1.nil_iff.mp z)) (fun z => ⟨.ref a, H, I, rfl, q1 hx (r2.nil_iff.mp z)⟩) (fun z => ?_) (by rw [← r1.length, ← r2.length]; exact hz)
    exact newN I (by rw [List.length_append]; exact hz) (r1.append r2) (q2 hx fun w => z (r2.nil_iff.mpr w))
def rSlN (K : PySem.W.Frag) : V → Option Int → Option Int → Hp → VK → Prop := fun x lo hi H Q => ∃ a xs, x = .ref a ∧ SqT K H a xs ∧
  (HT.sIx xs.length 0 lo = 0 ∧ HT.sIx xs.length xs.length hi = xs.length → Q (.ref a) H) ∧ (¬ (HT.sIx xs.length 0 lo = 0 ∧ HT.sIx xs.length xs.length hi = xs.length) → NewT Q H (cutV xs lo hi))
theorem sl_tupN : SlR X (rSlN X.K) := by
  intro pins s σ H x v vl vu lo hi sl Q I rx hs pl pu h
  obtain ⟨a, xs, rfl, hx, q1, q2⟩ := h
  by_cases hw : HT.sIx xs.length 0 lo = 0 ∧ HT.sIx xs.length xs.length hi = xs.length
  · exact sl_tupA pins s σ H _ v vl vu lo hi sl Q I rx hs pl pu ⟨a, xs, rfl, hx, q1, fun n => absurd hw n⟩
  · cases rx
    obtain ⟨its, r, ht, hz⟩ := I.tuple hx
    have hl : its.toArray.size = xs.length := by rw [List.size_toArray]; exact r.length.symm
    refine ⟨"tuple", _, PyProof.Rows.slot_tuple_getitem.lookup, ht.typeIs, ?_⟩
    refine HT.getItem_tuple_cut ht hs pl pu (by rw [hl]; exact hw) ?_ (by rw [hl]; exact hz)
    rw [hl]
    exact newN I (Nat.le_trans (cutV_length xs lo hi) hz) ((r.drop (HT.sIx xs.length 0 lo)).take (HT.sIx xs.length xs.length hi - HT.sIx xs.length 0 lo)) (q2 hw)
end
end MP
end
section
set_option Elab.async false
set_option linter.all false
set_option maxRecDepth 100000
set_option maxHeartbeats 4000000
/-! MP0: data, a store of lists, what represents them in the layer's heap; outcomes. -/
namespace MP
open PySem PySem.Spec PyProof.Rows L2

/-- data: immutable data is written out, a mutable list is a number in the store -/
inductive D where
  | non | bl (b : Bool) | int (i : Int) | str (x : Str)
  | tup (xs : List D)
  | wk (xs : List D)
  | lst (l : Nat)
  | frl (xs : List D)
  | exn (n : Str) (ns : List Str) (ds : List D)
  | dct (l : Nat)
  | dtt (l : Nat)
  | err (n : Str) (ns : List Str) (ds : List D)

abbrev Sto := List (List D)
abbrev Env := List (Option D)

/-- an outcome -/
inductive Res (α : Type) where
  | ok (a : α) (S : Sto)
  | exc (n : Str) (ns : List Str) (ds : List D) (S : Sto)
  | stuck
namespace Res
def bind {α β : Type} (r : Res α) (f : α → Sto → Res β) : Res β := match r with
  | .ok a S => f a S
  | .exc n ns ds S => .exc n ns ds S
  | .stuck => .stuck
@[simp] theorem bind_ok {α β : Type} {a : α} {S : Sto} {f : α → Sto → Res β} : (Res.ok a S).bind f = f a S := rfl
@[simp] theorem bind_exc {α β : Type} {n : Str} {ns : List Str} {ds : List D} {S : Sto} {f : α → Sto → Res β} : (Res.exc n ns ds S : Res α).bind f = .exc n ns ds S := rfl
@[simp] theorem bind_stuck {α β : Type} {f : α → Sto → Res β} : (Res.stuck : Res α).bind f = .stuck := rfl
end Res

/-- what stands around: the written part, the module's names, the exception that an except suite holds -/
structure Cz where
  K : PySem.W.Frag
  mg : Str → Option Value
  xc : Option (Addr × Value × Addr)

/-- a list that is locked, or written -/
def Frz (K : PySem.W.Frag) (H : Hp) (a : Addr) (xs : List V) : Prop :=
  (∃ o, H a = some (.frz o (.lst xs))) ∨
    ∃ (o : Obj) (its : Array Value) (n : Nat), K.lookup a = some o ∧ o.cls = .type "list" ∧ o.dict = none ∧ o.data = .seq its n ∧ its.size ≤ sizeLine ∧ Vals xs its.toList
theorem Frz.sq {K : PySem.W.Frag} {H : Hp} {a : Addr} {xs : List V} (h : Frz K H a xs) : SqL K H a xs := by
  rcases h with h | h
  · exact .inl (.inr h)
  · exact .inr h

/-- a thing whose object is known to the letter -/
def rawO (a : Addr) (o : Obj) : HO := .ext fun h => h.get? a = some o
/-- what changes: lists, dicts of the two kinds of keys -/
def kindO : Option HO → Nat
  | some (.lst _) => 1
  | some (.dK _) => 2
  | some (.dT _) => 3
  | some (.frz _ (.dK _)) => 2
  | _ => 0
theorem kind_lst {o : Option HO} (h : kindO o = 1) : ∃ vs, o = some (.lst vs) := by
  unfold kindO at h
  split at h <;> first
    | exact ⟨_, rfl⟩
    | cases h
theorem kind_dt {o : Option HO} (h : kindO o = 3) : ∃ vs, o = some (.dT vs) := by
  unfold kindO at h
  split at h <;> first
    | exact ⟨_, rfl⟩
    | cases h

mutual
def RepV (c : Cz) (H : Hp) (φ : List Addr) : D → V → Prop
  | .non, v => v = .non
  | .bl b, v => v = .bl b
  | .int i, v => v = .int i
  | .str x, v => v = .str x
  | .tup ds, v => ∃ a xs, v = .ref a ∧ SqN c.K H a xs ∧ RepL c H φ ds xs
  | .wk ds, v => ∃ a xs, v = .ref a ∧ SqT c.K H a xs ∧ RepL c H φ ds xs
  | .lst l, v => ∃ a, v = .ref a ∧ φ[l]? = some a ∧ kindO (H a) = 1
  | .dct l, v => ∃ a, v = .ref a ∧ φ[l]? = some a ∧ kindO (H a) = 2
  | .dtt l, v => ∃ a, v = .ref a ∧ φ[l]? = some a ∧ kindO (H a) = 3
  | .err n ns ds, v => ∃ a C d vs, v = .ref a ∧ c.mg n = some (.ref C) ∧ H a = some (exo a C (some d)) ∧ H d = some (exd d (ns.zip vs)) ∧ ns.length = vs.length ∧ RepL c H φ ds vs
  | .frl ds, v => ∃ a xs, v = .ref a ∧ Frz c.K H a xs ∧ RepL c H φ ds xs
  | .exn n ns ds, v => ∃ a cls d vs, v = .ref a ∧ c.xc = some (a, cls, d) ∧ c.mg n = some cls ∧ H d = some (.xd (ns.zip vs)) ∧ ns.length = vs.length ∧ RepL c H φ ds vs
def RepL (c : Cz) (H : Hp) (φ : List Addr) : List D → List V → Prop
  | [], vs => vs = []
  | d :: ds, vs => ∃ v vr, vs = v :: vr ∧ RepV c H φ d v ∧ RepL c H φ ds vr
end

def keyD : Key → D
  | .inl i => .int i
  | .inr x => .str x
def keyT (k : List Key) : D := .tup (k.map keyD)
/-- the entries of a dict, written out -/
def ents {κ : Type} (f : κ → D) (ks : List κ) (ds : List D) : List D := List.zipWith (fun k d => .tup [f k, d]) ks ds
/-- a dict that is walked through stands locked -/
def lkd (ys : List D) : List D := .wk [] :: ys
/-- what stands at a place of the store -/
def Cell (c : Cz) (H : Hp) (φ : List Addr) (xs : List D) (a : Addr) : Prop :=
  (∃ vs, H a = some (.lst vs) ∧ RepL c H φ xs vs) ∨
  (∃ (kvs : List (Key × V)) (ds : List D), H a = some (.dK kvs) ∧ xs = ents keyD (kvs.map (·.1)) ds ∧ RepL c H φ ds (kvs.map (·.2))) ∨
  (∃ (kvs : List (List Key × V)) (ds : List D), H a = some (.dT kvs) ∧ xs = ents keyT (kvs.map (·.1)) ds ∧ RepL c H φ ds (kvs.map (·.2))) ∨
  (∃ (q : Obj) (kvs : List (Key × V)) (ds : List D), H a = some (.frz q (.dK kvs)) ∧ xs = lkd (ents keyD (kvs.map (·.1)) ds) ∧ RepL c H φ ds (kvs.map (·.2)))
/-- the store's lists and dicts stand at φ -/
structure RepS (c : Cz) (H : Hp) (φ : List Addr) (S : Sto) : Prop where
  nd : φ.Nodup
  len : φ.length = S.length
  cell : ∀ (l : Nat) (xs : List D), S[l]? = some xs → ∃ a, φ[l]? = some a ∧ Cell c H φ xs a
theorem RepS.at_ {c : Cz} {H : Hp} {φ : List Addr} {S : Sto} (r : RepS c H φ S) (l : Nat) (xs : List D) (h : S[l]? = some xs) {b : Addr} (hb : φ[l]? = some b) (hk : kindO (H b) = 1) : ∃ a vs, φ[l]? = some a ∧ H a = some (.lst vs) ∧ RepL c H φ xs vs := by
  obtain ⟨a, h1, h2⟩ := r.cell l xs h
  rw [hb] at h1
  cases h1
  rcases h2 with ⟨vs, h2, h3⟩ | ⟨kvs, ds, h2, _⟩ | ⟨kvs, ds, h2, _⟩ | ⟨q, kvs, ds, h2, _⟩
  · exact ⟨b, vs, hb, h2, h3⟩
  rotate_left 2
  · rw [h2] at hk
    cases hk
  · rw [h2] at hk
    cases hk
  · rw [h2] at hk
    cases hk

/-- a later heap -/
structure Ext (H : Hp) (φ : List Addr) (H' : Hp) (φ' : List Addr) : Prop where
  pre : φ <+: φ'
  keep : ∀ b o, H b = some o → b ∉ φ → H' b = some o
  new : ∀ b, b ∈ φ' → b ∉ φ → H b = none
  kind : ∀ b, b ∈ φ → kindO (H' b) = kindO (H b)
  lock : ∀ b q u, H b = some (.frz q u) → H' b = some (.frz q u)
theorem Ext.lk {H H' : Hp} {φ φ' : List Addr} (e : Ext H φ H' φ') {l n : Nat} {a : Addr} (hl : φ[l]? = some a) (hk : kindO (H a) = n) : kindO (H' a) = n := (e.kind a (List.mem_of_getElem? hl)).trans hk
theorem Ext.refl (H : Hp) (φ : List Addr) : Ext H φ H φ := ⟨List.prefix_refl _, fun _ _ h _ => h, fun _ h n => absurd h n, fun _ _ => rfl, fun _ _ _ h => h⟩
theorem Ext.trans {H H1 H2 : Hp} {φ φ1 φ2 : List Addr} (a : Ext H φ H1 φ1) (b : Ext H1 φ1 H2 φ2) : Ext H φ H2 φ2 where
  pre := List.IsPrefix.trans a.pre b.pre
  keep := fun x o h n => b.keep x o (a.keep x o h n) fun m => by
    have := a.new x m n
    rw [h] at this
    cases this
  new := fun x h n => by
    by_cases m : x ∈ φ1
    · exact a.new x m n
    · have e := b.new x h m
      cases q : H x with
      | none => rfl
      | some o =>
        have := a.keep x o q n
        rw [e] at this
        cases this
  kind := fun x h => (b.kind x (a.pre.subset h)).trans (a.kind x h)
  lock := fun x q u h => b.lock x q u (a.lock x q u h)

section
variable {c : Cz} {H H' : Hp} {φ φ' : List Addr} {S : Sto}
theorem Cell.kind {xs : List D} {a : Addr} (h : Cell c H φ xs a) : kindO (H a) ≠ 0 := by
  rcases h with ⟨vs, h2, _⟩ | ⟨kvs, ds, h2, _⟩ | ⟨kvs, ds, h2, _⟩ | ⟨q, kvs, ds, h2, _⟩ <;> (rw [h2]; intro z; cases z)
theorem RepS.isl (r : RepS c H φ S) {a : Addr} (h : a ∈ φ) : kindO (H a) ≠ 0 := by
  obtain ⟨l, hl⟩ := List.getElem?_of_mem h
  have hl' : l < S.length := by
    have := (List.getElem?_eq_some_iff.mp hl).1
    rw [← r.len]; exact this
  obtain ⟨a', h1, h2⟩ := r.cell l S[l] (List.getElem?_eq_getElem hl')
  rw [hl] at h1
  cases h1
  exact h2.kind
/-- what is not a list or a dict of the store -/
theorem not_in (hφ : ∀ a, a ∈ φ → kindO (H a) ≠ 0) {a : Addr} {o : HO} (h : H a = some o) (n : kindO (some o) = 0) : a ∉ φ := fun m => by
  have e := hφ a m
  rw [h] at e
  exact e n
theorem SqT.ext {K : PySem.W.Frag} (hφ : ∀ a, a ∈ φ → kindO (H a) ≠ 0) (e : Ext H φ H' φ') {a : Addr} {xs : List V} (h : SqT K H a xs) : SqT K H' a xs := by
  rcases h with (h | ⟨o, h⟩) | h
  · exact .inl (.inl (e.keep _ _ h (not_in hφ h rfl)))
  · exact .inl (.inr ⟨o, e.keep _ _ h (not_in hφ h rfl)⟩)
  · exact .inr h
theorem SqN.ext {K : PySem.W.Frag} (hφ : ∀ a, a ∈ φ → kindO (H a) ≠ 0) (e : Ext H φ H' φ') {a : Addr} {xs : List V} (h : SqN K H a xs) : SqN K H' a xs := by
  rcases h with ⟨o, h1, h2⟩ | h
  · exact .inl ⟨o, h1, e.keep _ _ h2 (not_in hφ h2 rfl)⟩
  · exact .inr h
theorem Frz.ext {K : PySem.W.Frag} (hφ : ∀ a, a ∈ φ → kindO (H a) ≠ 0) (e : Ext H φ H' φ') {a : Addr} {xs : List V} (h : Frz K H a xs) : Frz K H' a xs := by
  rcases h with ⟨o, h⟩ | h
  · exact .inl ⟨o, e.keep _ _ h (not_in hφ h rfl)⟩
  · exact .inr h
theorem pre_get {l : Nat} {a : Addr} (p : φ <+: φ') (h : φ[l]? = some a) : φ'[l]? = some a := by
  obtain ⟨t, rfl⟩ := p
  have := (List.getElem?_eq_some_iff.mp h).1
  rw [List.getElem?_append_left this]
  exact h
mutual
theorem RepV.ext (hφ : ∀ a, a ∈ φ → kindO (H a) ≠ 0) (e : Ext H φ H' φ') : ∀ (d : D) (v : V), RepV c H φ d v → RepV c H' φ' d v
  | .non, _, h => by unfold RepV at h ⊢; exact h
  | .bl _, _, h => by unfold RepV at h ⊢; exact h
  | .int _, _, h => by unfold RepV at h ⊢; exact h
  | .str _, _, h => by unfold RepV at h ⊢; exact h
  | .tup ds, _, h => by
    unfold RepV at h ⊢
    obtain ⟨a, xs, e1, e2, e3⟩ := h
    exact ⟨a, xs, e1, SqN.ext hφ e e2, RepL.ext hφ e ds xs e3⟩
  | .wk ds, _, h => by
    unfold RepV at h ⊢
    obtain ⟨a, xs, e1, e2, e3⟩ := h
    exact ⟨a, xs, e1, SqT.ext hφ e e2, RepL.ext hφ e ds xs e3⟩
  | .lst l, _, h => by
    unfold RepV at h ⊢
    obtain ⟨a, e1, e2, e3⟩ := h
    exact ⟨a, e1, pre_get e.pre e2, e.lk e2 e3⟩
  | .dct l, _, h => by
    unfold RepV at h ⊢
    obtain ⟨a, e1, e2, e3⟩ := h
    exact ⟨a, e1, pre_get e.pre e2, e.lk e2 e3⟩
  | .dtt l, _, h => by
    unfold RepV at h ⊢
    obtain ⟨a, e1, e2, e3⟩ := h
    exact ⟨a, e1, pre_get e.pre e2, e.lk e2 e3⟩
  | .err n ns ds, _, h => by
    unfold RepV at h ⊢
    obtain ⟨a, C, d, vs, e1, e2, e3, e4, e5, e6⟩ := h
    exact ⟨a, C, d, vs, e1, e2, e.keep _ _ e3 (not_in hφ e3 rfl), e.keep _ _ e4 (not_in hφ e4 rfl), e5, RepL.ext hφ e ds vs e6⟩
  | .frl ds, _, h => by
    unfold RepV at h ⊢
    obtain ⟨a, xs, e1, e2, e3⟩ := h
    exact ⟨a, xs, e1, Frz.ext hφ e e2, RepL.ext hφ e ds xs e3⟩
  | .exn n ns ds, _, h => by
    unfold RepV at h ⊢
    obtain ⟨a, cls, d, vs, e1, e2, e3, e4, e5, e6⟩ := h
    exact ⟨a, cls, d, vs, e1, e2, e3, e.keep _ _ e4 (not_in hφ e4 rfl), e5, RepL.ext hφ e ds vs e6⟩
theorem RepL.ext (hφ : ∀ a, a ∈ φ → kindO (H a) ≠ 0) (e : Ext H φ H' φ') : ∀ (ds : List D) (vs : List V), RepL c H φ ds vs → RepL c H' φ' ds vs
  | [], _, h => by unfold RepL at h ⊢; exact h
  | d :: ds, _, h => by
    unfold RepL at h ⊢
    obtain ⟨v, vr, e1, e2, e3⟩ := h
    exact ⟨v, vr, e1, RepV.ext hφ e d v e2, RepL.ext hφ e ds vr e3⟩
end
theorem RepL.length : ∀ {ds : List D} {vs : List V}, RepL c H φ ds vs → ds.length = vs.length
  | [], _, h => by unfold RepL at h; subst h; rfl
  | d :: ds, _, h => by
    unfold RepL at h
    obtain ⟨v, vr, rfl, _, h3⟩ := h
    simp [RepL.length h3]
theorem RepL.get : ∀ {ds : List D} {vs : List V} {i : Nat} {d : D}, RepL c H φ ds vs → ds[i]? = some d → ∃ v, vs[i]? = some v ∧ RepV c H φ d v
  | [], _, _, _, _, e => by simp at e
  | d :: ds, _, 0, _, h, e => by
    unfold RepL at h
    obtain ⟨v, vr, rfl, h2, _⟩ := h
    simp at e; subst e
    exact ⟨v, rfl, h2⟩
  | d :: ds, _, i + 1, x, h, e => by
    unfold RepL at h
    obtain ⟨v, vr, rfl, _, h3⟩ := h
    obtain ⟨w, h1, h2⟩ := RepL.get (i := i) (d := x) h3 (by simpa using e)
    exact ⟨w, by simpa using h1, h2⟩
theorem RepL.getV : ∀ {ds : List D} {vs : List V} {i : Nat} {v : V}, RepL c H φ ds vs → vs[i]? = some v → ∃ d, ds[i]? = some d ∧ RepV c H φ d v
  | [], _, _, _, h, e => by unfold RepL at h; subst h; simp at e
  | d :: ds, _, 0, _, h, e => by
    unfold RepL at h
    obtain ⟨v, vr, rfl, h2, _⟩ := h
    simp at e; subst e
    exact ⟨d, rfl, h2⟩
  | d :: ds, _, i + 1, x, h, e => by
    unfold RepL at h
    obtain ⟨v, vr, rfl, _, h3⟩ := h
    obtain ⟨w, h1, h2⟩ := RepL.getV (i := i) (v := x) h3 (by simpa using e)
    exact ⟨w, by simpa using h1, h2⟩
theorem RepL.append : ∀ {ds es : List D} {vs us : List V}, RepL c H φ ds vs → RepL c H φ es us → RepL c H φ (ds ++ es) (vs ++ us)
  | [], _, _, _, h, q => by unfold RepL at h; subst h; exact q
  | d :: ds, _, _, _, h, q => by
    unfold RepL at h
    obtain ⟨v, vr, rfl, h2, h3⟩ := h
    show RepL c H φ (d :: (ds ++ _)) (v :: (vr ++ _))
    unfold RepL
    exact ⟨v, _, rfl, h2, RepL.append h3 q⟩
theorem RepL.nil : RepL c H φ [] [] := by unfold RepL; rfl
theorem RepL.cons {d : D} {v : V} {ds : List D} {vs : List V} (h : RepV c H φ d v) (q : RepL c H φ ds vs) : RepL c H φ (d :: ds) (v :: vs) := by unfold RepL; exact ⟨v, vs, rfl, h, q⟩
theorem RepL.take : ∀ (n : Nat) {ds : List D} {vs : List V}, RepL c H φ ds vs → RepL c H φ (ds.take n) (vs.take n)
  | 0, _, _, _ => by simp only [List.take_zero]; exact .nil
  | n + 1, [], _, h => by unfold RepL at h; subst h; simp only [List.take_nil]; exact .nil
  | n + 1, d :: ds, _, h => by
    unfold RepL at h
    obtain ⟨v, vr, rfl, h2, h3⟩ := h
    simp only [List.take_succ_cons]
    exact .cons h2 (RepL.take n h3)
theorem RepL.drop : ∀ (n : Nat) {ds : List D} {vs : List V}, RepL c H φ ds vs → RepL c H φ (ds.drop n) (vs.drop n)
  | 0, _, _, h => h
  | n + 1, [], _, h => by unfold RepL at h; subst h; simp only [List.drop_nil]; exact .nil
  | n + 1, d :: ds, _, h => by
    unfold RepL at h
    obtain ⟨v, vr, rfl, h2, h3⟩ := h
    simp only [List.drop_succ_cons]
    exact RepL.drop n h3
theorem RepL.set : ∀ (n : Nat) {ds : List D} {vs : List V} {d : D} {v : V}, RepL c H φ ds vs → RepV c H φ d v → RepL c H φ (ds.set n d) (vs.set n v)
  | _, [], _, _, _, h, _ => by unfold RepL at h; subst h; exact .nil
  | 0, d :: ds, _, _, _, h, q => by
    unfold RepL at h
    obtain ⟨v, vr, rfl, h2, h3⟩ := h
    exact .cons q h3
  | n + 1, d :: ds, _, _, _, h, q => by
    unfold RepL at h
    obtain ⟨v, vr, rfl, h2, h3⟩ := h
    exact .cons h2 (RepL.set n h3 q)
theorem RepL.reverse : ∀ {ds : List D} {vs : List V}, RepL c H φ ds vs → RepL c H φ ds.reverse vs.reverse
  | [], _, h => by unfold RepL at h; subst h; exact .nil
  | d :: ds, _, h => by
    unfold RepL at h
    obtain ⟨v, vr, rfl, h2, h3⟩ := h
    simp only [List.reverse_cons]
    exact RepL.append (RepL.reverse h3) (.cons h2 .nil)
theorem RepL.eraseIdx : ∀ (n : Nat) {ds : List D} {vs : List V}, RepL c H φ ds vs → RepL c H φ (ds.eraseIdx n) (vs.eraseIdx n)
  | _, [], _, h => by unfold RepL at h; subst h; simp only [List.eraseIdx_nil]; exact .nil
  | 0, d :: ds, _, h => by
    unfold RepL at h
    obtain ⟨v, vr, rfl, h2, h3⟩ := h
    exact h3
  | n + 1, d :: ds, _, h => by
    unfold RepL at h
    obtain ⟨v, vr, rfl, h2, h3⟩ := h
    simp only [List.eraseIdx_cons_succ]
    exact .cons h2 (RepL.eraseIdx n h3)

/-! ### the store changes -/
theorem RepS.ls (r : RepS c H φ S) : ∀ a, a ∈ φ → kindO (H a) ≠ 0 := fun _ h => r.isl h
theorem Cell.ext {xs : List D} {a : Addr} (hφ : ∀ a, a ∈ φ → kindO (H a) ≠ 0) (e : Ext H φ H' φ') (ha : H' a = H a) (h : Cell c H φ xs a) : Cell c H' φ' xs a := by
  rcases h with ⟨vs, h2, h3⟩ | ⟨kvs, ds, h2, h3, h4⟩ | ⟨kvs, ds, h2, h3, h4⟩ | ⟨q, kvs, ds, h2, h3, h4⟩
  · exact .inl ⟨vs, ha.trans h2, RepL.ext hφ e _ _ h3⟩
  · exact .inr (.inl ⟨kvs, ds, ha.trans h2, h3, RepL.ext hφ e _ _ h4⟩)
  · exact .inr (.inr (.inl ⟨kvs, ds, ha.trans h2, h3, RepL.ext hφ e _ _ h4⟩))
  · exact .inr (.inr (.inr ⟨q, kvs, ds, ha.trans h2, h3, RepL.ext hφ e _ _ h4⟩))
theorem kind_some {o : Option HO} (h : kindO o ≠ 0) : ∃ u, o = some u := by
  cases o with
  | none => exact absurd rfl h
  | some u => exact ⟨u, rfl⟩
/-- other things are laid beside -/
theorem RepS.keep (r : RepS c H φ S) (k : ∀ b o, H b = some o → H' b = some o) : RepS c H' φ S ∧ Ext H φ H' φ := by
  have ke : ∀ b, b ∈ φ → H' b = H b := fun b h => by
    obtain ⟨u, hu⟩ := kind_some (r.isl h)
    rw [hu]
    exact k b u hu
  have e : Ext H φ H' φ := ⟨List.prefix_refl _, fun b o h _ => k b o h, fun _ h n => absurd h n, fun b h => by rw [ke b h], fun b q u h => k b _ h⟩
  refine ⟨⟨r.nd, r.len, fun l xs h => ?_⟩, e⟩
  obtain ⟨a, h1, h2⟩ := r.cell l xs h
  exact ⟨a, h1, h2.ext r.ls e (ke a (List.mem_of_getElem? h1))⟩
theorem upd_keep {o : HO} {p : Addr} (hp : H p = none) : ∀ b u, H b = some u → upd H p o b = some u := fun b u h => by
  rw [upd_ne (ne_of_none h hp)]; exact h
theorem RepS.write.nodup_ix' {N : List Addr} (hN : N.Nodup) {i j : Nat} {x : Addr} (a : N[i]? = some x) (b : N[j]? = some x) : i = j := by
  obtain ⟨h1, e1⟩ := List.getElem?_eq_some_iff.mp a
  obtain ⟨h2, e2⟩ := List.getElem?_eq_some_iff.mp b
  exact (List.getElem_inj hN).mp (e1.trans e2.symm)
/-- a new list or dict -/
theorem RepS.pushC (r : RepS c H φ S) {p : Addr} {o : HO} {xs : List D} (hp : H p = none) (hx : Ext H φ (upd H p o) (φ ++ [p]) → Cell c (upd H p o) (φ ++ [p]) xs p) : RepS c (upd H p o) (φ ++ [p]) (S ++ [xs]) ∧ Ext H φ (upd H p o) (φ ++ [p]) := by
  have np : p ∉ φ := fun m => by
    have e := r.isl m
    rw [hp] at e
    exact e rfl
  have e : Ext H φ (upd H p o) (φ ++ [p]) := by
    refine ⟨List.prefix_append _ _, fun b o h _ => upd_keep hp b o h, fun b h n => ?_, fun b h => by rw [upd_ne (show b ≠ p from fun q => np (q ▸ h))], fun b q u h => upd_keep hp b _ h⟩
    rcases List.mem_append.mp h with h | h
    · exact absurd h n
    · simp at h; subst h; exact hp
  refine ⟨⟨?_, by simp [r.len], fun l ys h => ?_⟩, e⟩
  · rw [List.nodup_append]
    refine ⟨r.nd, by simp, fun a ha b hb => ?_⟩
    simp at hb; subst hb
    exact fun q => np (q ▸ ha)
  · by_cases hl : l < S.length
    · rw [List.getElem?_append_left hl] at h
      obtain ⟨a, h1, h2⟩ := r.cell l ys h
      exact ⟨a, pre_get e.pre h1, h2.ext r.ls e (upd_ne fun q => np (q ▸ List.mem_of_getElem? h1))⟩
    · have hl' : l < (S ++ [xs]).length := (List.getElem?_eq_some_iff.mp h).1
      have el : l = S.length := by simp at hl'; omega
      subst el
      rw [List.getElem?_append_right (Nat.le_refl _)] at h
      simp at h
      subst h
      refine ⟨p, ?_, hx e⟩
      rw [← r.len, List.getElem?_append_right (Nat.le_refl _)]
      simp
theorem RepS.push (r : RepS c H φ S) {p : Addr} {xs : List D} {vs : List V} (hp : H p = none) (hx : RepL c H φ xs vs) : RepS c (upd H p (.lst vs)) (φ ++ [p]) (S ++ [xs]) ∧ Ext H φ (upd H p (.lst vs)) (φ ++ [p]) :=
  r.pushC hp fun e => .inl ⟨vs, upd_same, RepL.ext r.ls e _ _ hx⟩
/-- a list or a dict is changed -/
theorem RepS.writeC (r : RepS c H φ S) {l : Nat} {a : Addr} {o : HO} {xs : List D} (hl : φ[l]? = some a) (hk : kindO (some o) = kindO (H a)) (hz : ∀ q u, H a ≠ some (.frz q u)) (hx : Ext H φ (upd H a o) φ → Cell c (upd H a o) φ xs a) : RepS c (upd H a o) φ (S.set l xs) ∧ Ext H φ (upd H a o) φ := by
  have ma : a ∈ φ := List.mem_of_getElem? hl
  have e : Ext H φ (upd H a o) φ := by
    refine ⟨List.prefix_refl _, fun b o h n => ?_, fun _ h n => absurd h n, fun b h => ?_, fun b q u h => ?_⟩
    · rw [upd_ne (fun q => n (by rw [q]; exact ma))]
      exact h
    rotate_left
    · rw [upd_ne (fun z => hz q u (by rw [← z]; exact h))]
      exact h
    · by_cases q : b = a
      · rw [q, upd_same, hk]
      · rw [upd_ne q]
  refine ⟨⟨r.nd, by simp [r.len], fun k ys h => ?_⟩, e⟩
  by_cases hlk : l = k
  · subst hlk
    have lt : l < S.length := by
      have := (List.getElem?_eq_some_iff.mp hl).1
      rw [r.len] at this; exact this
    rw [List.getElem?_set_self lt] at h
    cases h
    exact ⟨a, hl, hx e⟩
  · rw [List.getElem?_set_ne hlk] at h
    obtain ⟨b, h1, h2⟩ := r.cell k ys h
    refine ⟨b, h1, h2.ext r.ls e (upd_ne ?_)⟩
    intro q
    subst q
    exact hlk (RepS.write.nodup_ix' r.nd hl h1)
theorem RepS.write (r : RepS c H φ S) {l : Nat} {a : Addr} {xs : List D} {vs : List V} (hl : φ[l]? = some a) (hk : kindO (H a) = 1) (hx : RepL c H φ xs vs) : RepS c (upd H a (.lst vs)) φ (S.set l xs) ∧ Ext H φ (upd H a (.lst vs)) φ :=
  r.writeC hl hk.symm (fun q u z => by rw [z] at hk; cases u <;> cases hk) fun e => .inl ⟨vs, upd_same, RepL.ext r.ls e _ _ hx⟩
end
end MP
end
section
set_option Elab.async false
set_option linter.all false
set_option maxRecDepth 100000
set_option maxHeartbeats 4000000
/-! MP1: judgements over data: expressions, tests, arguments; the rules for the layer's constructs. -/
namespace MP
open PySem PySem.Spec PyProof.Rows L2
abbrev St := L2.St

/-- what an outcome asks of what follows -/
def Out {α β : Type} (c : Cz) (H : Hp) (φ : List Addr) (rel : Hp → List Addr → α → β → Prop) (r : Res α) (Q : β → Hp → Prop) (E : XK) : Prop :=
  match r with
  | .ok x S' => ∀ (φ' : List Addr) (H' : Hp) (y : β), Ext H φ H' φ' → RepS c H' φ' S' → rel H' φ' x y → Q y H'
  | .exc n ns ds S' => ∀ (φ' : List Addr) (H' : Hp) (cls : Value) (dx : Addr) (vs : List V), Ext H φ H' φ' → RepS c H' φ' S' → c.mg n = some cls → H' dx = some (.xd (ns.zip vs)) → ns.length = vs.length → RepL c H' φ' ds vs → E cls (some dx) H'
  | .stuck => False
theorem Out.bind {α β γ δ : Type} {c : Cz} {H : Hp} {φ : List Addr} {rel : Hp → List Addr → α → β → Prop} {rel' : Hp → List Addr → γ → δ → Prop} {r : Res α} {f : α → Sto → Res γ} {Q : δ → Hp → Prop} {E : XK}
    (h : Out c H φ rel' (r.bind f) Q E) {R : β → Hp → Prop}
    (k : ∀ x S' φ' H' y, Ext H φ H' φ' → RepS c H' φ' S' → rel H' φ' x y → Out c H' φ' rel' (f x S') Q E → R y H') : Out c H φ rel r R E := by
  cases r with
  | ok x S' =>
    intro φ' H' y e s r
    refine k x S' φ' H' y e s r ?_
    have h : Out c H φ rel' (f x S') Q E := h
    revert h
    cases f x S' with
    | ok z S'' => intro h φ'' H'' w e' s' r'; exact h φ'' H'' w (e.trans e') s' r'
    | exc n ns ds S'' => intro h φ'' H'' cls dx vs e' s'; exact h φ'' H'' cls dx vs (e.trans e') s'
    | stuck => intro h; exact h
  | exc n ns ds S' => exact h
  | stuck => exact h
theorem Out.later {α β : Type} {c : Cz} {H H1 : Hp} {φ φ1 : List Addr} {rel : Hp → List Addr → α → β → Prop} {r : Res α} {Q : β → Hp → Prop} {E : XK} (h : Out c H φ rel r Q E) (e : Ext H φ H1 φ1) : Out c H1 φ1 rel r Q E := by
  cases r with
  | ok x S' => intro φ' H' y e' s r; exact h φ' H' y (e.trans e') s r
  | exc n ns ds S' => intro φ' H' cls dx vs e' s; exact h φ' H' cls dx vs (e.trans e') s
  | stuck => exact h
theorem Out.weak {α β : Type} {c : Cz} {H : Hp} {φ : List Addr} {rel : Hp → List Addr → α → β → Prop} {r : Res α} {Q Q' : β → Hp → Prop} {E E' : XK} (h : Out c H φ rel r Q E) (hQ : ∀ y H', Q y H' → Q' y H') (hE : ∀ a b H', E a b H' → E' a b H') : Out c H φ rel r Q' E' := by
  cases r with
  | ok x S' => intro φ' H' y e s r; exact hQ _ _ (h φ' H' y e s r)
  | exc n ns ds S' => intro φ' H' cls dx vs e s a b c d; exact hE _ _ _ (h φ' H' cls dx vs e s a b c d)
  | stuck => exact h

/-- the frame's values -/
def RepE (c : Cz) (H : Hp) (φ : List Addr) (ρ : Env) (σ : St) : Prop := ρ.length = σ.length ∧ ∀ (i : Nat) (d : D), ρ[i]? = some (some d) → ∃ v, σ[i]? = some (some v) ∧ RepV c H φ d v
theorem RepE.ext {c : Cz} {H H' : Hp} {φ φ' : List Addr} {ρ : Env} {σ : St} {S : Sto} (h : RepE c H φ ρ σ) (s : RepS c H φ S) (e : Ext H φ H' φ') : RepE c H' φ' ρ σ :=
  ⟨h.1, fun i d q => by
    obtain ⟨v, h1, h2⟩ := h.2 i d q
    exact ⟨v, h1, RepV.ext s.ls e _ _ h2⟩⟩
theorem RepE.set {c : Cz} {H : Hp} {φ : List Addr} {ρ : Env} {σ : St} (h : RepE c H φ ρ σ) {i : Nat} {d : D} {v : V} (r : RepV c H φ d v) : RepE c H φ (ρ.set i (some d)) (σ.set i (some v)) := by
  refine ⟨by simp [h.1], fun j e q => ?_⟩
  by_cases hj : i = j
  · subst hj
    by_cases hl : i < ρ.length
    · rw [List.getElem?_set_self hl] at q
      cases q
      exact ⟨v, List.getElem?_set_self (by rw [← h.1]; exact hl), r⟩
    · rw [List.getElem?_eq_none (by simpa using hl)] at q
      cases q
  · rw [List.getElem?_set_ne hj] at q ⊢
    exact h.2 j e q
theorem RepE.unset {c : Cz} {H : Hp} {φ : List Addr} {ρ : Env} {σ : St} (h : RepE c H φ ρ σ) {i : Nat} {o : Option V} : RepE c H φ (ρ.set i none) (σ.set i o) := by
  refine ⟨by simp [h.1], fun j e q => ?_⟩
  by_cases hj : i = j
  · subst hj
    by_cases hl : i < ρ.length
    · rw [List.getElem?_set_self hl] at q
      cases q
    · rw [List.getElem?_eq_none (by simpa using hl)] at q
      cases q
  · rw [List.getElem?_set_ne hj] at q ⊢
    exact h.2 j e q

abbrev Ev := Env → Sto → Res D
abbrev EvB := Env → Sto → Res Bool
abbrev EvA := Env → Sto → Res (List D)
def eqB : Hp → List Addr → Bool → Bool → Prop := fun _ _ a b => a = b

def TEm (c : Cz) (W : WX) (ev : Ev) : TE := fun σ H Q => ∃ φ ρ S, RepE c H φ ρ σ ∧ RepS c H φ S ∧ Out c H φ (RepV c) (ev ρ S) Q (fun cls d H' => W cls d σ H')
def TTm (c : Cz) (W : WX) (ev : EvB) : TT := fun σ H Q => ∃ φ ρ S, RepE c H φ ρ σ ∧ RepS c H φ S ∧ Out c H φ eqB (ev ρ S) Q (fun cls d H' => W cls d σ H')
def TAm (c : Cz) (W : WX) (ev : EvA) : TA := fun σ H Q => ∃ φ ρ S, RepE c H φ ρ σ ∧ RepS c H φ S ∧ Out c H φ (RepL c) (ev ρ S) Q (fun cls d H' => W cls d σ H')

/-- what is known of the context -/
structure Sh (X : Cx) (c : Cz) (W : WX) : Prop where
  kk : c.K = X.K
  mm : c.mg = X.mg
  tk : Takes X W
  ow : PassesOwn (model X.prog X.w) X.A X.env X.xe
  nd : X.N.Nodup

def ME (X : Cx) (c : Cz) (W : WX) (e : Expr) (ev : Ev) : Prop := Sh X c W → PE X e (TEm c W ev)
def MT (X : Cx) (c : Cz) (W : WX) (e : Expr) (ev : EvB) : Prop := Sh X c W → PT X e (TTm c W ev)
def MW (X : Cx) (c : Cz) (W : WX) (e : Expr) (ev : EvB) : Prop := Sh X c W → PW X e (TTm c W ev)
def MA (X : Cx) (c : Cz) (W : WX) (es : List Expr) (ev : EvA) : Prop := Sh X c W → PA X es (TAm c W ev)

theorem PE.imp {X : Cx} {e : Expr} {t t' : TE} (h : PE X e t) (k : ∀ σ H Q, t' σ H Q → t σ H Q) : PE X e t' := ⟨fun pins s σ H Q I q => h.run pins s σ H Q I (k σ H Q q)⟩
theorem PT.imp {X : Cx} {e : Expr} {t t' : TT} (h : PT X e t) (k : ∀ σ H Q, t' σ H Q → t σ H Q) : PT X e t' := ⟨fun pins s σ H Q I q => h.run pins s σ H Q I (k σ H Q q)⟩
theorem PW.imp {X : Cx} {e : Expr} {t t' : TT} (h : PW X e t) (k : ∀ σ H Q, t' σ H Q → t σ H Q) : PW X e t' := ⟨fun wh pins s σ H Q I q => h.run wh pins s σ H Q I (k σ H Q q)⟩
theorem PA.imp {X : Cx} {es : List Expr} {t t' : TA} (h : PA X es t) (k : ∀ σ H Q, t' σ H Q → t σ H Q) : PA X es t' := ⟨fun pos pins s σ H Q I q => h.run pos pins s σ H Q I (k σ H Q q)⟩

/-! ### the evaluators -/
def eVar (i : Nat) : Ev := fun ρ S => match ρ[i]? with
  | some (some d) => .ok d S
  | _ => .stuck
def eC (d : D) : Ev := fun _ S => .ok d S
def lift {α : Type} : Option (α × Sto) → Res α
  | some (d, S) => .ok d S
  | none => .stuck
@[simp] theorem lift_some {α : Type} {d : α} {S : Sto} : lift (some (d, S)) = .ok d S := rfl
@[simp] theorem lift_none {α : Type} : lift (none : Option (α × Sto)) = .stuck := rfl
def eB (g : D → D → Sto → Option (D × Sto)) (a b : Ev) : Ev := fun ρ S => (a ρ S).bind fun x S1 => (b ρ S1).bind fun y S2 => lift (g x y S2)
def eU (g : D → Sto → Option (D × Sto)) (a : Ev) : Ev := fun ρ S => (a ρ S).bind fun x S1 => lift (g x S1)
def eL (g : List D → Sto → Option (D × Sto)) (a : EvA) : Ev := fun ρ S => (a ρ S).bind fun ds S1 => lift (g ds S1)
def boolOf : D → Sto → Res Bool
  | .bl b, S => .ok b S
  | _, _ => .stuck
def eTest (a : Ev) : EvB := fun ρ S => (a ρ S).bind boolOf
def eNotT (a : EvB) : EvB := fun ρ S => (a ρ S).bind fun b S1 => .ok (!b) S1
def eAndT (a b : EvB) : EvB := fun ρ S => (a ρ S).bind fun k S1 => if k = true then b ρ S1 else .ok false S1
def eOrT (a b : EvB) : EvB := fun ρ S => (a ρ S).bind fun k S1 => if k = true then .ok true S1 else b ρ S1
def eNot (a : Ev) : Ev := fun ρ S => (a ρ S).bind fun d S1 => match d with
  | .bl b => .ok (.bl (!b)) S1
  | _ => .stuck
def eAnd (a b : Ev) : Ev := fun ρ S => (a ρ S).bind fun d S1 => match d with
  | .bl k => if k = true then b ρ S1 else .ok (.bl false) S1
  | _ => .stuck
def eOr (a b : Ev) : Ev := fun ρ S => (a ρ S).bind fun d S1 => match d with
  | .bl k => if k = true then .ok (.bl true) S1 else b ρ S1
  | _ => .stuck
def eIf (t : EvB) (a b : Ev) : Ev := fun ρ S => (t ρ S).bind fun k S1 => if k = true then a ρ S1 else b ρ S1
def aNil : EvA := fun _ S => .ok [] S
def aCons (a : Ev) (r : EvA) : EvA := fun ρ S => (a ρ S).bind fun d S1 => (r ρ S1).bind fun ds S2 => .ok (d :: ds) S2
def dTup (ds : List D) (S : Sto) : Option (D × Sto) := if ds.length ≤ 1000 then some (.tup ds, S) else none
def dLst (ds : List D) (S : Sto) : Option (D × Sto) := if ds.length ≤ 1000 then some (.lst S.length, S ++ [ds]) else none
def eTup (a : EvA) : Ev := eL dTup a
def eLst (a : EvA) : Ev := eL dLst a
def eChain (g g' : D → D → Sto → Option (D × Sto)) (a b d : Ev) : Ev := fun ρ S => (a ρ S).bind fun x S1 => (b ρ S1).bind fun y S2 => (lift (g x y S2)).bind fun z S3 => match z with
  | .bl k => if k = true then (d ρ S3).bind fun w S4 => lift (g' y w S4) else .ok (.bl false) S3
  | _ => .stuck

/-- an operation on data -/
def OutO {α β : Type} (c : Cz) (H : Hp) (φ : List Addr) (rel : Hp → List Addr → α → β → Prop) (r : Option (α × Sto)) (Q : β → Hp → Prop) : Prop :=
  match r with
  | some (x, S') => ∀ (φ' : List Addr) (H' : Hp) (y : β), Ext H φ H' φ' → RepS c H' φ' S' → rel H' φ' x y → Q y H'
  | none => False
theorem OutO.of {α β : Type} {c : Cz} {H : Hp} {φ : List Addr} {rel : Hp → List Addr → α → β → Prop} {r : Option (α × Sto)} {Q : β → Hp → Prop} {E : XK} (h : Out c H φ rel (lift r) Q E) : OutO c H φ rel r Q := by
  cases r with
  | none => exact h
  | some p => exact h
def OpD (X : Cx) (c : Cz) (f : Value → Value → Sem Value) (g : D → D → Sto → Option (D × Sto)) : Prop :=
  c.K = X.K → OpR X f fun x y H Q => ∃ φ S d e, RepS c H φ S ∧ RepV c H φ d x ∧ RepV c H φ e y ∧ OutO c H φ (RepV c) (g d e S) Q
def UnD (X : Cx) (c : Cz) (f : Value → Sem Value) (g : D → Sto → Option (D × Sto)) : Prop :=
  c.K = X.K → UnR X f fun x H Q => ∃ φ S d, RepS c H φ S ∧ RepV c H φ d x ∧ OutO c H φ (RepV c) (g d S) Q
def CallD (X : Cx) (c : Cz) (f : Value) (g : List D → Sto → Option (D × Sto)) : Prop :=
  c.K = X.K → CallR X f fun vs H Q => ∃ φ S ds, RepS c H φ S ∧ RepL c H φ ds vs ∧ OutO c H φ (RepV c) (g ds S) Q
def IxD (X : Cx) (c : Cz) (g : D → D → Sto → Option (D × Sto)) : Prop :=
  c.K = X.K → IxR X fun x y H Q => ∃ φ S d e, RepS c H φ S ∧ RepV c H φ d x ∧ RepV c H φ e y ∧ OutO c H φ (RepV c) (g d e S) Q

section
variable {X : Cx} {c : Cz} {W : WX} {a b d : Expr} {ea eb ed : Ev} {pos : Pos}

theorem me_var (i : Nat) {x : Str} (hN : X.N[i]? = some x := by rfl) (hv : Vis X.env.scope x := by first | exact Or.inl rfl | exact Or.inr (Or.inl rfl) | exact Or.inr (Or.inr rfl)) (hd : (x == ("__debug__" : Str)) = false := by decide)
    (hcd : (x == ("__classdict__" : Str)) = false := by decide) : ME X c W (.Name x pos) (eVar i) := fun _ => by
  refine PE.imp (pe_var hN hv hd hcd) fun σ H Q ⟨φ, ρ, S, re, rs, o⟩ => ?_
  unfold eVar at o
  split at o
  · rename_i dd q
    obtain ⟨v, h1, h2⟩ := re.2 i dd q
    exact ⟨v, h1, o φ H v (.refl _ _) rs h2⟩
  · exact o.elim
theorem me_c {e : Expr} {v : V} {dd : D} (h : PE X e (tC v)) (r : ∀ H φ, RepV c H φ dd v) : ME X c W e (eC dd) := fun _ => by
  refine PE.imp h fun σ H Q ⟨φ, ρ, S, re, rs, o⟩ => ?_
  exact o φ H v (.refl _ _) rs (r _ _)
theorem me_int {i : Int} {j : Nat} : ME X c W (.Constant (.int i) j pos) (eC (.int i)) := me_c pe_int fun _ _ => by unfold RepV; rfl
theorem me_bl {i : Bool} {j : Nat} : ME X c W (.Constant (.bool i) j pos) (eC (.bl i)) := me_c pe_bl fun _ _ => by unfold RepV; rfl
theorem me_non {j : Nat} : ME X c W (.Constant .none j pos) (eC .non) := me_c pe_non fun _ _ => by unfold RepV; rfl
theorem me_str {x : Str} {j : Nat} : ME X c W (.Constant (.str x) j pos) (eC (.str x)) := me_c pe_str fun _ _ => by unfold RepV; rfl

/-- two in a row, at the level of the readings -/
theorem two {σ : St} {H : Hp} {Q : VK} {f : D → D → Sto → Res D} {R : V → V → Hp → Prop}
    (h : TEm c W (fun ρ S => (ea ρ S).bind fun x S1 => (eb ρ S1).bind fun y S2 => f x y S2) σ H Q)
    (k : ∀ φ S d e x y H', RepS c H' φ S → RepV c H' φ d x → RepV c H' φ e y → Out c H' φ (RepV c) (f d e S) Q (fun cls d H' => W cls d σ H') → R x y H') :
    TEm c W ea σ H fun x H1 => TEm c W eb σ H1 fun y H2 => R x y H2 := by
  obtain ⟨φ, ρ, S, re, rs, o⟩ := h
  refine ⟨φ, ρ, S, re, rs, Out.bind o fun x S1 φ1 H1 v e1 s1 r1 o1 => ?_⟩
  refine ⟨φ1, ρ, S1, re.ext rs e1, s1, Out.bind o1 fun y S2 φ2 H2 u e2 s2 r2 o2 => ?_⟩
  exact k φ2 S2 x y v u H2 s2 (RepV.ext s1.ls e2 _ _ r1) r2 o2
theorem me_bin {op : Operator} {g : D → D → Sto → Option (D × Sto)} (ho : OpD X c (binaryOp op) g) (ha : ME X c W a ea) (hb : ME X c W b eb) : ME X c W (.BinOp a op b pos) (eB g ea eb) := fun s => by
  refine PE.imp (pe_op (ho s.kk) (ha s) (hb s)) fun σ H Q h => ?_
  exact two h fun φ S d e x y H' s1 r1 r2 o => ⟨φ, S, d, e, s1, r1, r2, OutO.of o⟩
theorem me_cmp {op : CmpOp} {g : D → D → Sto → Option (D × Sto)} (ho : OpD X c (compareOp op) g) (ha : ME X c W a ea) (hb : ME X c W b eb) (hm : behindInMarks op b = false := by first | exact nomark _ | rfl) : ME X c W (.Compare a [op] [b] pos) (eB g ea eb) := fun s => by
  refine PE.imp (pe_cmpR (ho s.kk) (ha s) (hb s) hm) fun σ H Q h => ?_
  exact two h fun φ S d e x y H' s1 r1 r2 o => ⟨φ, S, d, e, s1, r1, r2, OutO.of o⟩
theorem mt_cmp {op : CmpOp} {g : D → D → Sto → Option (D × Sto)} (ho : OpD X c (compareOp op) g) (ha : ME X c W a ea) (hb : ME X c W b eb) (hm : behindInMarks op b = false := by first | exact nomark _ | rfl) : MT X c W (.Compare a [op] [b] pos) (eTest (eB g ea eb)) := fun s => by
  refine PT.imp (pt_cmpR (ho s.kk) (ha s) (hb s) hm) fun σ H Q h => ?_
  obtain ⟨φ, ρ, S, re, rs, o⟩ := h
  have h2 : TEm c W (eB g ea eb) σ H fun x H' => ∃ k, x = .bl k ∧ Q k H' := by
    refine ⟨φ, ρ, S, re, rs, Out.bind o fun x S1 φ1 H1 v e1 s1 r1 o1 => ?_⟩
    cases x <;> first
      | exact False.elim o1
      | (unfold RepV at r1
         exact ⟨_, r1, o1 φ1 H1 _ (.refl _ _) s1 rfl⟩)
  exact two h2 fun φ S d e x y H' s1 r1 r2 o => ⟨φ, S, d, e, s1, r1, r2, OutO.of o⟩
theorem me_un {op : UnaryOp} {g : D → Sto → Option (D × Sto)} (ho : UnD X c (unaryOp op) g) (ha : ME X c W a ea) : ME X c W (.UnaryOp op a pos) (eU g ea) := fun s => by
  refine PE.imp (pe_un (ho s.kk) (ha s)) fun σ H Q ⟨φ, ρ, S, re, rs, o⟩ => ?_
  exact ⟨φ, ρ, S, re, rs, Out.bind o fun x S1 φ1 H1 v e1 s1 r1 o1 => ⟨φ1, S1, x, s1, r1, OutO.of o1⟩⟩
/-! tests -/
theorem mt_val (h : ME X c W a ea) (he : ∀ whole, isTrue a X.env whole = (do let v ← whole; standAt a.pos; holding [v] (truthy v)) := by intro _; rfl) : MT X c W a (eTest ea) := fun s => by
  refine PT.imp (pt_val (h s) he) fun σ H Q ⟨φ, ρ, S, re, rs, o⟩ => ?_
  refine ⟨φ, ρ, S, re, rs, Out.bind o fun x S1 φ1 H1 v e1 s1 r1 o1 => ?_⟩
  cases x <;> first
    | exact False.elim o1
    | (unfold RepV at r1
       exact ⟨_, r1, o1 φ1 H1 _ (.refl _ _) s1 rfl⟩)
variable {ta tb : EvB} {rest : List Expr}
theorem mt_not (h : MT X c W a ta) : MT X c W (.UnaryOp .Not a pos) (eNotT ta) := fun s => by
  refine PT.imp (pt_not (h s)) fun σ H Q ⟨φ, ρ, S, re, rs, o⟩ => ?_
  refine ⟨φ, ρ, S, re, rs, Out.bind o fun x S1 φ1 H1 v e1 s1 r1 o1 => ?_⟩
  unfold eqB at r1
  subst r1
  exact o1 φ1 H1 _ (.refl _ _) s1 rfl
theorem mw_pt (h : MW X c W a ta) : MT X c W a ta := fun s => (h s).pt
theorem mw_and1 (h : MT X c W a ta) : MW X c W (.BoolOp .And [a] pos) ta := fun s => pw_and1 (h s)
theorem mw_or1 (h : MT X c W a ta) : MW X c W (.BoolOp .Or [a] pos) ta := fun s => pw_or1 (h s)
theorem mw_and (ha : MT X c W a ta) (hb : MW X c W (.BoolOp .And (b :: rest) pos) tb) : MW X c W (.BoolOp .And (a :: b :: rest) pos) (eAndT ta tb) := fun s => by
  refine PW.imp (pw_and (ha s) (hb s)) fun σ H Q ⟨φ, ρ, S, re, rs, o⟩ => ?_
  refine ⟨φ, ρ, S, re, rs, Out.bind o fun x S1 φ1 H1 v e1 s1 r1 o1 => ?_⟩
  unfold eqB at r1
  subst r1
  cases x with
  | true => exact iteT ⟨φ1, ρ, S1, re.ext rs e1, s1, o1⟩
  | false => exact iteF (o1 φ1 H1 _ (.refl _ _) s1 rfl)
theorem mw_or (ha : MT X c W a ta) (hb : MW X c W (.BoolOp .Or (b :: rest) pos) tb) : MW X c W (.BoolOp .Or (a :: b :: rest) pos) (eOrT ta tb) := fun s => by
  refine PW.imp (pw_or (ha s) (hb s)) fun σ H Q ⟨φ, ρ, S, re, rs, o⟩ => ?_
  refine ⟨φ, ρ, S, re, rs, Out.bind o fun x S1 φ1 H1 v e1 s1 r1 o1 => ?_⟩
  unfold eqB at r1
  subst r1
  cases x with
  | true => exact iteT (o1 φ1 H1 _ (.refl _ _) s1 rfl)
  | false => exact iteF ⟨φ1, ρ, S1, re.ext rs e1, s1, o1⟩
/-! and, or, not, as values -/
theorem me_one {op : BoolOp} (h : ME X c W a ea) : ME X c W (.BoolOp op [a] pos) ea := fun s => pe_one (h s)
theorem me_and (ha : ME X c W a ea) (hb : ME X c W (.BoolOp .And (b :: rest) pos) eb) : ME X c W (.BoolOp .And (a :: b :: rest) pos) (eAnd ea eb) := fun s => by
  refine PE.imp (pe_and (ha s) (hb s)) fun σ H Q ⟨φ, ρ, S, re, rs, o⟩ => ?_
  refine ⟨φ, ρ, S, re, rs, Out.bind o fun x S1 φ1 H1 v e1 s1 r1 o1 => ?_⟩
  cases x <;> first
    | exact False.elim o1
    | skip
  rename_i k
  unfold RepV at r1
  refine ⟨k, r1, ?_⟩
  cases k with
  | true => exact iteT ⟨φ1, ρ, S1, re.ext rs e1, s1, o1⟩
  | false => exact iteF (o1 φ1 H1 _ (.refl _ _) s1 (by unfold RepV; rfl))
theorem me_or (ha : ME X c W a ea) (hb : ME X c W (.BoolOp .Or (b :: rest) pos) eb) : ME X c W (.BoolOp .Or (a :: b :: rest) pos) (eOr ea eb) := fun s => by
  refine PE.imp (pe_or (ha s) (hb s)) fun σ H Q ⟨φ, ρ, S, re, rs, o⟩ => ?_
  refine ⟨φ, ρ, S, re, rs, Out.bind o fun x S1 φ1 H1 v e1 s1 r1 o1 => ?_⟩
  cases x <;> first
    | exact False.elim o1
    | skip
  rename_i k
  unfold RepV at r1
  refine ⟨k, r1, ?_⟩
  cases k with
  | true => exact iteT (o1 φ1 H1 _ (.refl _ _) s1 (by unfold RepV; rfl))
  | false => exact iteF ⟨φ1, ρ, S1, re.ext rs e1, s1, o1⟩
theorem me_not (ha : ME X c W a ea) : ME X c W (.UnaryOp .Not a pos) (eNot ea) := fun s => by
  refine PE.imp (pe_not (ha s)) fun σ H Q ⟨φ, ρ, S, re, rs, o⟩ => ?_
  refine ⟨φ, ρ, S, re, rs, Out.bind o fun x S1 φ1 H1 v e1 s1 r1 o1 => ?_⟩
  cases x <;> first
    | exact False.elim o1
    | skip
  rename_i k
  unfold RepV at r1
  exact ⟨k, r1, o1 φ1 H1 _ (.refl _ _) s1 (by unfold RepV; rfl)⟩
theorem me_if {t : Expr} (ht : MT X c W t ta) (ha : ME X c W a ea) (hb : ME X c W b eb) : ME X c W (.IfExp t a b pos) (eIf ta ea eb) := fun s => by
  refine PE.imp (pe_ifExp (ht s) (ha s) (hb s)) fun σ H Q ⟨φ, ρ, S, re, rs, o⟩ => ?_
  refine ⟨φ, ρ, S, re, rs, Out.bind o fun x S1 φ1 H1 v e1 s1 r1 o1 => ?_⟩
  unfold eqB at r1
  subst r1
  cases x with
  | true => exact iteT ⟨φ1, ρ, S1, re.ext rs e1, s1, o1⟩
  | false => exact iteF ⟨φ1, ρ, S1, re.ext rs e1, s1, o1⟩
theorem me_chain {op op' : CmpOp} {g g' : D → D → Sto → Option (D × Sto)} (ho : OpD X c (compareOp op) g) (ho' : OpD X c (compareOp op') g') (ha : ME X c W a ea) (hb : ME X c W b eb) (hd : ME X c W d ed)
    (hm : lastMarks [op, op'] [b, d] = false := by with_unfolding_all rfl) : ME X c W (.Compare a [op, op'] [b, d] pos) (eChain g g' ea eb ed) := fun s => by
  refine PE.imp (pe_chain (ho s.kk) (ho' s.kk) (ha s) (hb s) (hd s) hm) fun σ H Q ⟨φ, ρ, S, re, rs, o⟩ => ?_
  refine ⟨φ, ρ, S, re, rs, Out.bind o fun x S1 φ1 H1 v e1 s1 r1 o1 => ?_⟩
  refine ⟨φ1, ρ, S1, re.ext rs e1, s1, Out.bind o1 fun y S2 φ2 H2 u e2 s2 r2 o2 => ?_⟩
  refine ⟨φ2, S2, x, y, s2, RepV.ext s1.ls e2 _ _ r1, r2, OutO.of (Out.bind o2 fun z S3 φ3 H3 w e3 s3 r3 o3 => ?_)⟩
  cases z <;> first
    | exact False.elim o3
    | skip
  rename_i k
  unfold RepV at r3
  refine ⟨k, r3, ?_⟩
  cases k with
  | true =>
    refine iteT ⟨φ3, ρ, S3, (((re.ext rs e1).ext s1 e2).ext s2 e3), s3, ?_⟩
    exact Out.bind o3 fun w' S4 φ4 H4 u' e4 s4 r4 o4 => ⟨φ4, S4, y, w', s4, RepV.ext s3.ls e4 _ _ (RepV.ext s2.ls e3 _ _ r2), r4, OutO.of o4⟩
  | false => exact iteF (o3 φ3 H3 _ (.refl _ _) s3 (by unfold RepV; rfl))
theorem mt_chain {op op' : CmpOp} {g g' : D → D → Sto → Option (D × Sto)} (ho : OpD X c (compareOp op) g) (ho' : OpD X c (compareOp op') g') (ha : ME X c W a ea) (hb : ME X c W b eb) (hd : ME X c W d ed)
    (hm : lastMarks [op, op'] [b, d] = false := by with_unfolding_all rfl) : MT X c W (.Compare a [op, op'] [b, d] pos) (eTest (eChain g g' ea eb ed)) := fun s => by
  refine PT.imp (pt_chain (ho s.kk) (ho' s.kk) (ha s) (hb s) (hd s) hm) fun σ H Q ⟨φ, ρ, S, re, rs, o⟩ => ?_
  have h2 : TEm c W (eChain g g' ea eb ed) σ H fun x H' => ∃ k, x = .bl k ∧ Q k H' := by
    refine ⟨φ, ρ, S, re, rs, Out.bind o fun x S1 φ1 H1 v e1 s1 r1 o1 => ?_⟩
    cases x <;> first
      | exact False.elim o1
      | (unfold RepV at r1
         exact ⟨_, r1, o1 φ1 H1 _ (.refl _ _) s1 rfl⟩)
  obtain ⟨φ, ρ, S, re, rs, o⟩ := h2
  refine ⟨φ, ρ, S, re, rs, Out.bind o fun x S1 φ1 H1 v e1 s1 r1 o1 => ?_⟩
  refine ⟨φ1, ρ, S1, re.ext rs e1, s1, Out.bind o1 fun y S2 φ2 H2 u e2 s2 r2 o2 => ?_⟩
  refine ⟨φ2, S2, x, y, s2, RepV.ext s1.ls e2 _ _ r1, r2, OutO.of (Out.bind o2 fun z S3 φ3 H3 w e3 s3 r3 o3 => ?_)⟩
  cases z <;> first
    | exact False.elim o3
    | skip
  rename_i k
  unfold RepV at r3
  refine ⟨k, r3, ?_⟩
  cases k with
  | true =>
    refine iteT ⟨φ3, ρ, S3, (((re.ext rs e1).ext s1 e2).ext s2 e3), s3, ?_⟩
    exact Out.bind o3 fun w' S4 φ4 H4 u' e4 s4 r4 o4 => ⟨φ4, S4, y, w', s4, RepV.ext s3.ls e4 _ _ (RepV.ext s2.ls e3 _ _ r2), r4, OutO.of o4⟩
  | false => exact iteF (o3 φ3 H3 _ (.refl _ _) s3 (by unfold RepV; rfl))

/-! arguments, displays -/
theorem ma_nil : MA X c W [] aNil := fun _ => by
  refine PA.imp pa_nil fun σ H Q ⟨φ, ρ, S, re, rs, o⟩ => ?_
  exact o φ H [] (.refl _ _) rs .nil
variable {es : List Expr} {ra : EvA}
theorem ma_cons (ha : ME X c W a ea) (hr : MA X c W es ra) (hs : starEach (a :: es) X.env = (false, eval a X.env) :: starEach es X.env := by rfl) : MA X c W (a :: es) (aCons ea ra) := fun s => by
  refine PA.imp (pa_cons (ha s) (hr s) hs) fun σ H Q ⟨φ, ρ, S, re, rs, o⟩ => ?_
  refine ⟨φ, ρ, S, re, rs, Out.bind o fun x S1 φ1 H1 v e1 s1 r1 o1 => ?_⟩
  refine ⟨φ1, ρ, S1, re.ext rs e1, s1, Out.bind o1 fun xs S2 φ2 H2 vs e2 s2 r2 o2 => ?_⟩
  exact o2 φ2 H2 _ (.refl _ _) s2 (.cons (RepV.ext s1.ls e2 _ _ r1) r2)
theorem small1k {n : Nat} (h : n ≤ 1000) : n ≤ sizeLine := Nat.le_trans h (by decide)
theorem me_tup {x1 : Nat} (h : MA X c W es ra) : ME X c W (.Tuple es x1 pos) (eTup ra) := fun s => by
  refine PE.imp (pe_tupN (h s)) fun σ H Q ⟨φ, ρ, S, re, rs, o⟩ => ?_
  refine ⟨φ, ρ, S, re, rs, Out.bind o fun xs S1 φ1 H1 vs e1 s1 r1 o1 => ?_⟩
  unfold dTup at o1
  split at o1
  · rename_i hl
    rw [r1.length] at hl
    refine ⟨small1k hl, fun p ob hp hn => ?_⟩
    obtain ⟨s2, e2⟩ := s1.keep (H' := upd H1 p (.frz ob (.tup vs))) (upd_keep hp)
    refine o1 φ1 _ _ e2 s2 ?_
    unfold RepV
    exact ⟨p, vs, rfl, .inl ⟨ob, hn, upd_same⟩, RepL.ext s1.ls e2 _ _ r1⟩
  · exact o1.elim
theorem me_lst (h : MA X c W es ra) : ME X c W (.List es pos) (eLst ra) := fun s => by
  refine PE.imp (pe_lst (h s)) fun σ H Q ⟨φ, ρ, S, re, rs, o⟩ => ?_
  refine ⟨φ, ρ, S, re, rs, Out.bind o fun xs S1 φ1 H1 vs e1 s1 r1 o1 => ?_⟩
  unfold dLst at o1
  split at o1
  · rename_i hl
    rw [r1.length] at hl
    refine ⟨small1k hl, fun p hp => ?_⟩
    obtain ⟨s2, e2⟩ := s1.push hp r1
    refine o1 _ _ _ e2 s2 ?_
    unfold RepV
    refine ⟨p, rfl, ?_, by rw [upd_same]; rfl⟩
    rw [← s1.len, List.getElem?_append_right (Nat.le_refl _)]
    simp
  · exact o1.elim
/-! subscripts, calls of what is built in -/
theorem me_ix {g : D → D → Sto → Option (D × Sto)} (ho : IxD X c g) (ha : ME X c W a ea) (hb : ME X c W b eb) (hs : PlainIx b := by exact fun _ _ => rfl) : ME X c W (.Subscript a b pos) (eB g ea eb) := fun s => by
  refine PE.imp (pe_ix (ho s.kk) (ha s) (hb s) hs) fun σ H Q h => ?_
  exact two h fun φ S d e x y H' s1 r1 r2 o => ⟨φ, S, d, e, s1, r1, r2, OutO.of o⟩
variable {x : Str} {id T : String} {g : List D → Sto → Option (D × Sto)} {p : Pos}
theorem me_callB (hc : CallD X c (.builtin id) g) (ha : MA X c W (a :: es) ra) (hm : X.mg x = none) (hg : Gl X x := by rfl) (hv : bootBuiltins x = some (.builtin id) := by decide +kernel) (hn : x ≠ "__name__" := by decide) (hdb : (x == ("__debug__" : Str)) = false := by decide)
    (he : starEach (a :: es) X.env = (false, eval a X.env) :: starEach es X.env := by rfl) (hpl : (backTo pos (starEach es X.env)).any (·.1) = false := by rfl) : ME X c W (.Call (.Name x p) (a :: es) [] pos) (eL g ra) := fun s => by
  refine PE.imp (pe_callB (hc s.kk) hg hm hv (ha s) hn hdb he hpl) fun σ H Q ⟨φ, ρ, S, re, rs, o⟩ => ?_
  exact ⟨φ, ρ, S, re, rs, Out.bind o fun xs S1 φ1 H1 vs e1 s1 r1 o1 => ⟨φ1, S1, xs, s1, r1, OutO.of o1⟩⟩
theorem me_callTy (hc : CallD X c (.type T) g) (ha : MA X c W (a :: es) ra) (hm : X.mg x = none) (hg : Gl X x := by rfl) (hv : bootBuiltins x = some (.type T) := by decide +kernel) (hn : x ≠ "__name__" := by decide) (hdb : (x == ("__debug__" : Str)) = false := by decide)
    (he : starEach (a :: es) X.env = (false, eval a X.env) :: starEach es X.env := by rfl) (hpl : (backTo pos (starEach es X.env)).any (·.1) = false := by rfl) : ME X c W (.Call (.Name x p) (a :: es) [] pos) (eL g ra) := fun s => by
  refine PE.imp (pe_callTy (hc s.kk) hg hm hv (ha s) hn hdb he hpl) fun σ H Q ⟨φ, ρ, S, re, rs, o⟩ => ?_
  exact ⟨φ, ρ, S, re, rs, Out.bind o fun xs S1 φ1 H1 vs e1 s1 r1 o1 => ⟨φ1, S1, xs, s1, r1, OutO.of o1⟩⟩
theorem me_callBf (hc : CallD X c (.builtin id) g) (ha : MA X c W (a :: es) ra) (hm : X.mg x = some (.builtin id)) (hg : Gl X x := by rfl) (hdb : (x == ("__debug__" : Str)) = false := by decide)
    (he : starEach (a :: es) X.env = (false, eval a X.env) :: starEach es X.env := by rfl) (hpl : (backTo pos (starEach es X.env)).any (·.1) = false := by rfl) : ME X c W (.Call (.Name x p) (a :: es) [] pos) (eL g ra) := fun s => by
  refine PE.imp (pe_callBfun (hc s.kk) hg hm (ha s) hdb he hpl) fun σ H Q ⟨φ, ρ, S, re, rs, o⟩ => ?_
  exact ⟨φ, ρ, S, re, rs, Out.bind o fun xs S1 φ1 H1 vs e1 s1 r1 o1 => ⟨φ1, S1, xs, s1, r1, OutO.of o1⟩⟩
end
end MP
end
section
set_option Elab.async false
set_option linter.all false
set_option maxRecDepth 100000
set_option maxHeartbeats 4000000
/-! MP2: statements over data: flows, assignments, if, loops, comprehensions. -/
namespace MP
open PySem PySem.Spec PyProof.Rows L2

inductive Flow where
  | next (ρ : Env) (S : Sto)
  | brk (ρ : Env) (S : Sto)
  | cont (ρ : Env) (S : Sto)
  | ret (d : D) (S : Sto)
  | exc (n : Str) (ns : List Str) (ds : List D) (ρ : Env) (S : Sto)
  | stuck
abbrev Es := Env → Sto → Flow

def OutF (c : Cz) (W : WX) (H : Hp) (φ : List Addr) (f : Flow) (D : Ends) : Prop :=
  match f with
  | .next ρ S => ∀ φ' H' σ', Ext H φ H' φ' → RepS c H' φ' S → RepE c H' φ' ρ σ' → D.nx σ' H'
  | .brk ρ S => ∀ φ' H' σ', Ext H φ H' φ' → RepS c H' φ' S → RepE c H' φ' ρ σ' → D.bk σ' H'
  | .cont ρ S => ∀ φ' H' σ', Ext H φ H' φ' → RepS c H' φ' S → RepE c H' φ' ρ σ' → D.ct σ' H'
  | .ret d S => ∀ φ' H' v, Ext H φ H' φ' → RepS c H' φ' S → RepV c H' φ' d v → D.rt v H'
  | .exc n ns ds ρ S => ∀ φ' H' σ' cls dx vs, Ext H φ H' φ' → RepS c H' φ' S → RepE c H' φ' ρ σ' → c.mg n = some cls → H' dx = some (.xd (ns.zip vs)) → ns.length = vs.length → RepL c H' φ' ds vs → W cls (some dx) σ' H'
  | .stuck => False
theorem OutF.later {c : Cz} {W : WX} {H H1 : Hp} {φ φ1 : List Addr} {f : Flow} {D : Ends} (h : OutF c W H φ f D) (e : Ext H φ H1 φ1) : OutF c W H1 φ1 f D := by
  cases f with
  | next ρ S => intro φ' H' σ' e' s r; exact h φ' H' σ' (e.trans e') s r
  | brk ρ S => intro φ' H' σ' e' s r; exact h φ' H' σ' (e.trans e') s r
  | cont ρ S => intro φ' H' σ' e' s r; exact h φ' H' σ' (e.trans e') s r
  | ret d S => intro φ' H' v e' s r; exact h φ' H' v (e.trans e') s r
  | exc n ns ds ρ S => intro φ' H' σ' cls dx vs e' s r; exact h φ' H' σ' cls dx vs (e.trans e') s r
  | stuck => exact h
theorem OutF.weak {c : Cz} {W : WX} {H : Hp} {φ : List Addr} {f : Flow} {D D' : Ends} (h : OutF c W H φ f D) (hn : ∀ ρ S, f = .next ρ S → ∀ σ H', D.nx σ H' → D'.nx σ H') (hr : ∀ v H', D.rt v H' → D'.rt v H') (hb : ∀ ρ S, f = .brk ρ S → ∀ σ H', D.bk σ H' → D'.bk σ H') (hc : ∀ ρ S, f = .cont ρ S → ∀ σ H', D.ct σ H' → D'.ct σ H') : OutF c W H φ f D' := by
  cases f with
  | next ρ S => intro φ' H' σ' e' s r; exact hn _ _ rfl _ _ (h φ' H' σ' e' s r)
  | brk ρ S => intro φ' H' σ' e' s r; exact hb _ _ rfl _ _ (h φ' H' σ' e' s r)
  | cont ρ S => intro φ' H' σ' e' s r; exact hc _ _ rfl _ _ (h φ' H' σ' e' s r)
  | ret d S => intro φ' H' v e' s r; exact hr _ _ (h φ' H' v e' s r)
  | exc n ns ds ρ S => exact h
  | stuck => exact h

def TSm (c : Cz) (W : WX) (ev : Es) : TS := fun D σ H => ∃ φ ρ S, RepE c H φ ρ σ ∧ RepS c H φ S ∧ OutF c W H φ (ev ρ S) D
def MS (X : Cx) (c : Cz) (W : WX) (st : Stmt) (ev : Es) : Prop := Sh X c W → PS X st (TSm c W ev)
def MSs (X : Cx) (c : Cz) (W : WX) (sts : List Stmt) (ev : Es) : Prop := Sh X c W → PSs X sts (TSm c W ev)
theorem PS.imp {X : Cx} {st : Stmt} {t t' : TS} (h : PS X st t) (k : ∀ D σ H, t' D σ H → t D σ H) : PS X st t' := ⟨fun pins s σ H D I q => h.run pins s σ H D I (k D σ H q)⟩
theorem PSs.imp {X : Cx} {st : List Stmt} {t t' : TS} (h : PSs X st t) (k : ∀ D σ H, t' D σ H → t D σ H) : PSs X st t' := ⟨fun pins s σ H D I q => h.run pins s σ H D I (k D σ H q)⟩

/-! ### evaluators -/
def ofRes {α : Type} (r : Res α) (ρ : Env) (k : α → Sto → Flow) : Flow := match r with
  | .ok a S => k a S
  | .exc n ns ds S => .exc n ns ds ρ S
  | .stuck => .stuck
@[simp] theorem ofRes_ok {α : Type} {a : α} {S : Sto} {ρ : Env} {k : α → Sto → Flow} : ofRes (.ok a S) ρ k = k a S := rfl
@[simp] theorem ofRes_exc {α : Type} {n : Str} {ns : List Str} {ds : List D} {S : Sto} {ρ : Env} {k : α → Sto → Flow} : ofRes (.exc n ns ds S) ρ k = .exc n ns ds ρ S := rfl
@[simp] theorem ofRes_stuck {α : Type} {ρ : Env} {k : α → Sto → Flow} : ofRes (.stuck : Res α) ρ k = .stuck := rfl
def Flow.andThen (f : Flow) (b : Es) : Flow := match f with
  | .next ρ S => b ρ S
  | .brk ρ S => .brk ρ S
  | .cont ρ S => .cont ρ S
  | .ret d S => .ret d S
  | .exc n ns ds ρ S => .exc n ns ds ρ S
  | .stuck => .stuck
@[simp] theorem andThen_next {ρ : Env} {S : Sto} {b : Es} : (Flow.next ρ S).andThen b = b ρ S := rfl
@[simp] theorem andThen_ret {d : D} {S : Sto} {b : Es} : (Flow.ret d S).andThen b = .ret d S := rfl
@[simp] theorem andThen_brk {ρ : Env} {S : Sto} {b : Es} : (Flow.brk ρ S).andThen b = .brk ρ S := rfl
@[simp] theorem andThen_cont {ρ : Env} {S : Sto} {b : Es} : (Flow.cont ρ S).andThen b = .cont ρ S := rfl
@[simp] theorem andThen_exc {n : Str} {ns : List Str} {ds : List D} {ρ : Env} {S : Sto} {b : Es} : (Flow.exc n ns ds ρ S).andThen b = .exc n ns ds ρ S := rfl
@[simp] theorem andThen_stuck {b : Es} : Flow.stuck.andThen b = .stuck := rfl
def sSkip : Es := fun ρ S => .next ρ S
def sSeq (a b : Es) : Es := fun ρ S => (a ρ S).andThen b
def sAsg (i : Nat) (e : Ev) : Es := fun ρ S => ofRes (e ρ S) ρ fun d S1 => .next (ρ.set i (some d)) S1
def sBind (b : D → Env → Option Env) (e : Ev) : Es := fun ρ S => ofRes (e ρ S) ρ fun d S1 => match b d ρ with
  | some ρ' => .next ρ' S1
  | none => .stuck
def sPar (i j : Nat) (a b : Ev) : Es := fun ρ S => ofRes (a ρ S) ρ fun d S1 => ofRes (b ρ S1) ρ fun e S2 => .next ((ρ.set i (some d)).set j (some e)) S2
def sSub (g : D → D → D → Sto → Option Sto) (o i e : Ev) : Es := fun ρ S => ofRes (e ρ S) ρ fun v S1 => ofRes (o ρ S1) ρ fun a S2 => ofRes (i ρ S2) ρ fun k S3 => match g a k v S3 with
  | some S4 => .next ρ S4
  | none => .stuck
def sAug (i : Nat) (g : D → D → Sto → Option (D × Sto)) (e : Ev) : Es := fun ρ S => match ρ[i]? with
  | some (some x) => ofRes (e ρ S) ρ fun y S1 => match g x y S1 with
    | some (z, S2) => .next (ρ.set i (some z)) S2
    | none => .stuck
  | _ => .stuck
def sExpr (e : Ev) : Es := fun ρ S => ofRes (e ρ S) ρ fun _ S1 => .next ρ S1
def sRet (e : Ev) : Es := fun ρ S => ofRes (e ρ S) ρ fun d S1 => .ret d S1
def sRetN : Es := fun _ S => .ret .non S
def sIf (t : EvB) (a b : Es) : Es := fun ρ S => ofRes (t ρ S) ρ fun k S1 => if k = true then a ρ S1 else b ρ S1
def sBrk : Es := fun ρ S => .brk ρ S
def sCont : Es := fun ρ S => .cont ρ S

/-- what a loop walks: its items, and what must stand of the store -/
structure Src where
  xs : List D
  st : Sto → Prop
open Classical in
noncomputable def forLoop (st : Sto → Prop) (b : D → Env → Option Env) (body : Es) : List D → Env → Sto → Flow
  | [], ρ, S => if st S then .next ρ S else .stuck
  | x :: xs, ρ, S => if st S then (match b x ρ with
    | none => .stuck
    | some ρ1 => match body ρ1 S with
      | .next ρ2 S2 => forLoop st b body xs ρ2 S2
      | .cont ρ2 S2 => forLoop st b body xs ρ2 S2
      | .brk ρ2 S2 => .next ρ2 S2
      | .ret d S2 => .ret d S2
      | .exc n ns ds ρ2 S2 => .exc n ns ds ρ2 S2
      | .stuck => .stuck) else .stuck
noncomputable def sFor (src : Env → Sto → Res Src) (b : D → Env → Option Env) (body : Es) : Es := fun ρ S => ofRes (src ρ S) ρ fun z S1 => forLoop z.st b body z.xs ρ S1
def whileLoop (t : EvB) (body : Es) : Nat → Env → Sto → Flow
  | 0, _, _ => .stuck
  | n + 1, ρ, S => ofRes (t ρ S) ρ fun k S1 => if k = true then (match body ρ S1 with
      | .next ρ2 S2 => whileLoop t body n ρ2 S2
      | .cont ρ2 S2 => whileLoop t body n ρ2 S2
      | .brk ρ2 S2 => .next ρ2 S2
      | .ret d S2 => .ret d S2
      | .exc n ns ds ρ2 S2 => .exc n ns ds ρ2 S2
      | .stuck => .stuck) else .next ρ S1
@[irreducible] noncomputable def fuel : Nat := 2 ^ 4000000
noncomputable def sWhile (t : EvB) (body : Es) : Es := fun ρ S => whileLoop t body fuel ρ S

open Classical in
noncomputable def lcLoop (st : Sto → Prop) (b : D → Env → Option Env) (t : EvB) (e : Ev) (ρ : Env) : List D → List D → Sto → Res (List D)
  | [], acc, S => if st S then .ok acc S else .stuck
  | x :: xs, acc, S => if st S then (match b x ρ with
    | none => .stuck
    | some ρ1 => match t ρ1 S with
      | .ok k S1 => if k = true then (match e ρ1 S1 with
          | .ok d S2 => if acc.length < 1000000 then lcLoop st b t e ρ xs (acc ++ [d]) S2 else .stuck
          | .exc .. => .stuck
          | .stuck => .stuck) else lcLoop st b t e ρ xs acc S1
      | .exc .. => .stuck
      | .stuck => .stuck) else .stuck
def wipeE (ρ : Env) : List Nat → Env
  | [] => ρ
  | v :: vs => (wipeE ρ vs).set v none
noncomputable def eLc (src : Env → Sto → Res Src) (b : D → Env → Option Env) (t : EvB) (e : Ev) (vs : List Nat) : Ev := fun ρ S => (src ρ S).bind fun z S1 => (lcLoop z.st b t e (wipeE ρ vs) z.xs [] S1).bind fun acc S2 => .ok (.lst S2.length) (S2 ++ [acc])
def tTrue : EvB := fun _ S => .ok true S

section
variable {X : Cx} {c : Cz} {W : WX} {a b d : Expr} {ea eb ed : Ev} {pos : Pos} {st : Stmt} {rest : List Stmt} {u v : Es} {sa sb : List Stmt}
theorem mss_nil : MSs X c W [] sSkip := fun _ => by
  refine PSs.imp pss_nil fun D σ H ⟨φ, ρ, S, re, rs, o⟩ => ?_
  exact o φ H σ (.refl _ _) rs re
theorem mss_one (h : MS X c W st u) : MSs X c W [st] u := fun s => pss_one (h s)
theorem seq_out {D : Ends} {H : Hp} {φ : List Addr} {f : Flow} (o : OutF c W H φ (f.andThen v) D) : OutF c W H φ f { D with nx := TSm c W v D } := by
  cases f with
  | next ρ S =>
    intro φ' H' σ' e s r
    exact ⟨φ', ρ, S, r, s, OutF.later o e⟩
  | brk ρ S => exact o
  | cont ρ S => exact o
  | ret d S => exact o
  | exc n ns ds ρ S => exact o
  | stuck => exact o
theorem mss_cons (h : MS X c W st u) (r : MSs X c W rest v) : MSs X c W (st :: rest) (sSeq u v) := fun s => by
  refine PSs.imp (pss_cons (h s) (r s)) fun D σ H ⟨φ, ρ, S, re, rs, o⟩ => ?_
  exact ⟨φ, ρ, S, re, rs, seq_out o⟩
theorem ms_pass : MS X c W (.Pass pos) sSkip := fun _ => by
  refine PS.imp ps_pass fun D σ H ⟨φ, ρ, S, re, rs, o⟩ => ?_
  exact o φ H σ (.refl _ _) rs re
theorem ms_break : MS X c W (.Break pos) sBrk := fun _ => by
  refine PS.imp ps_break fun D σ H ⟨φ, ρ, S, re, rs, o⟩ => ?_
  exact o φ H σ (.refl _ _) rs re
theorem ms_continue : MS X c W (.Continue pos) sCont := fun _ => by
  refine PS.imp ps_continue fun D σ H ⟨φ, ρ, S, re, rs, o⟩ => ?_
  exact o φ H σ (.refl _ _) rs re
/-- an outcome, then a flow -/
theorem flow_out {α β : Type} {rel : Hp → List Addr → α → β → Prop} {r : Res α} {ρ : Env} {k : α → Sto → Flow} {D : Ends} {σ : St} {H : Hp} {φ : List Addr} {R : β → Hp → Prop} {S : Sto} (re : RepE c H φ ρ σ) (rs : RepS c H φ S) (o : OutF c W H φ (ofRes r ρ k) D)
    (h : ∀ x S' φ' H' y, Ext H φ H' φ' → RepS c H' φ' S' → rel H' φ' x y → RepE c H' φ' ρ σ → OutF c W H' φ' (k x S') D → R y H') : Out c H φ rel r R fun cls d H' => W cls d σ H' := by
  cases r with
  | ok x S' => intro φ' H' y e s q; exact h x S' φ' H' y e s q (re.ext rs e) (OutF.later o e)
  | exc n ns ds S' => intro φ' H' cls dx vs e s m1 m2 m3 m4; exact o φ' H' σ cls dx vs e s (re.ext rs e) m1 m2 m3 m4
  | stuck => exact o
theorem ms_expr (h : ME X c W a ea) (hs : swapsWith a none pos.line X.env = pure false := by rfl) : MS X c W (.Expr a pos) (sExpr ea) := fun s => by
  refine PS.imp (ps_expr (h s) hs) fun D σ H ⟨φ, ρ, S, re, rs, o⟩ => ?_
  exact ⟨φ, ρ, S, re, rs, flow_out re rs o fun x S' φ' H' y e s' q re' o' => o' φ' H' σ (.refl _ _) s' re'⟩
theorem ms_ret (h : ME X c W a ea) : MS X c W (.Return (some a) pos) (sRet ea) := fun s => by
  refine PS.imp (ps_ret (h s)) fun D σ H ⟨φ, ρ, S, re, rs, o⟩ => ?_
  exact ⟨φ, ρ, S, re, rs, flow_out re rs o fun x S' φ' H' y e s' q re' o' => o' φ' H' y (.refl _ _) s' q⟩
theorem ms_retN : MS X c W (.Return none pos) sRetN := fun _ => by
  refine PS.imp ps_retN fun D σ H ⟨φ, ρ, S, re, rs, o⟩ => ?_
  exact o φ H .non (.refl _ _) rs (by unfold RepV; rfl)
theorem ms_if {t : Expr} {et : EvB} (ht : MT X c W t et) (ha : MSs X c W sa u) (hb : MSs X c W sb v) : MS X c W (.If t sa sb pos) (sIf et u v) := fun s => by
  refine PS.imp (ps_if (ht s) (ha s) (hb s)) fun D σ H ⟨φ, ρ, S, re, rs, o⟩ => ?_
  refine ⟨φ, ρ, S, re, rs, flow_out re rs o fun x S' φ' H' y e s' q re' o' => ?_⟩
  unfold eqB at q
  subst q
  cases x with
  | true => exact iteT ⟨φ', ρ, S', re', s', o'⟩
  | false => exact iteF ⟨φ', ρ, S', re', s', o'⟩
theorem ms_set (i : Nat) {x : Str} {pos' : Pos} (h : ME X c W a ea) (hi : X.N[i]? = some x := by rfl) (hx : Loc X.env.scope x := by first | exact Or.inl rfl | exact Or.inr rfl) (hs : swapsWith a (some (.Name x pos')) pos.line X.env = pure false := by rfl) (hf : X.fn x = true ∨ X.env.scope.names.lookup x = some .local := by first | exact .inl rfl | exact .inr rfl) :
    MS X c W (.Assign [.Name x pos'] a pos) (sAsg i ea) := fun s => by
  refine PS.imp (ps_set s.nd hi hx (h s) hs hf) fun D σ H ⟨φ, ρ, S, re, rs, o⟩ => ?_
  exact ⟨φ, ρ, S, re, rs, flow_out re rs o fun x S' φ' H' y e s' q re' o' => o' φ' H' _ (.refl _ _) s' (re'.set q)⟩

/-! targets -/
/-- the slots vs alone may change -/
def SameBut (vs : List Nat) (σ σ' : St) : Prop := σ'.length = σ.length ∧ ∀ j, j ∉ vs → σ'[j]? = σ[j]?
theorem SameBut.refl (vs : List Nat) (σ : St) : SameBut vs σ σ := ⟨rfl, fun _ _ => rfl⟩
theorem SameBut.trans {vs ws : List Nat} {σ σ' σ'' : St} (a : SameBut vs σ σ') (b : SameBut ws σ' σ'') : SameBut (vs ++ ws) σ σ'' :=
  ⟨b.1.trans a.1, fun j hj => (b.2 j fun m => hj (List.mem_append_right _ m)).trans (a.2 j fun m => hj (List.mem_append_left _ m))⟩
def TGm (c : Cz) (vs : List Nat) (g : D → Env → Option Env) : TG := fun v σ H Q => ∃ φ ρ S d ρ', RepE c H φ ρ σ ∧ RepS c H φ S ∧ RepV c H φ d v ∧ g d ρ = some ρ' ∧ ∀ σ', RepE c H φ ρ' σ' → SameBut vs σ σ' → Q σ' H
def TGsm (c : Cz) (vs : List Nat) (g : List D → Env → Option Env) : TGs := fun us σ H Q => ∃ φ ρ S ds ρ', RepE c H φ ρ σ ∧ RepS c H φ S ∧ RepL c H φ ds us ∧ g ds ρ = some ρ' ∧ ∀ σ', RepE c H φ ρ' σ' → SameBut vs σ σ' → Q σ' H
def MG (X : Cx) (c : Cz) (tg : Expr) (vs : List Nat) (g : D → Env → Option Env) : Prop := c.K = X.K → X.N.Nodup → PG X tg (TGm c vs g)
def MGs (X : Cx) (c : Cz) (tgs : List Expr) (vs : List Nat) (g : List D → Env → Option Env) : Prop := c.K = X.K → X.N.Nodup → PGs X tgs (TGsm c vs g)
theorem PG.imp {e : Expr} {t t' : TG} (h : PG X e t) (k : ∀ v σ H Q, t' v σ H Q → t v σ H Q) : PG X e t' := ⟨fun pins s σ H v u Q I r q => h.run pins s σ H v u Q I r (k v σ H Q q)⟩
theorem PGs.imp {e : List Expr} {t t' : TGs} (h : PGs X e t) (k : ∀ v σ H Q, t' v σ H Q → t v σ H Q) : PGs X e t' := ⟨fun pins s σ H v u Q I r q => h.run pins s σ H v u Q I r (k v σ H Q q)⟩
def bName (i : Nat) : D → Env → Option Env := fun d ρ => some (ρ.set i (some d))
def bNil : List D → Env → Option Env := fun ds ρ => match ds with
  | [] => some ρ
  | _ => none
def bCons (g : D → Env → Option Env) (r : List D → Env → Option Env) : List D → Env → Option Env := fun ds ρ => match ds with
  | d :: ds => (g d ρ).bind (r ds)
  | [] => none
def bTup (n : Nat) (r : List D → Env → Option Env) : D → Env → Option Env := fun d ρ => match d with
  | .tup xs => if xs.length = n then r xs ρ else none
  | .wk xs => if xs.length = n then r xs ρ else none
  | _ => none
theorem mg_name (i : Nat) {x : Str} (hi : X.N[i]? = some x := by rfl) (hx : Loc X.env.scope x := by first | exact Or.inl rfl | exact Or.inr rfl) (hf : X.fn x = true ∨ X.env.scope.names.lookup x = some .local := by first | exact .inl rfl | exact .inr rfl) : MG X c (.Name x pos) [i] (bName i) := fun _ nd => by
  refine PG.imp (pg_name nd hi hx hf) fun v σ H Q ⟨φ, ρ, S, d, ρ', re, rs, r, e, q⟩ => ?_
  cases e
  refine q _ (re.set r) ⟨by simp, fun j hj => ?_⟩
  rw [List.getElem?_set_ne (fun z => hj (by simp [z]))]
theorem mgs_nil : MGs X c [] [] bNil := fun _ _ => by
  refine PGs.imp pgs_nil fun us σ H Q ⟨φ, ρ, S, ds, ρ', re, rs, r, e, q⟩ => ?_
  cases ds with
  | nil =>
    unfold RepL at r
    cases e
    exact ⟨r, q _ re (.refl _ _)⟩
  | cons d ds => cases e
theorem mgs_cons {e : Expr} {es : List Expr} {vs ws : List Nat} {g : D → Env → Option Env} {r : List D → Env → Option Env} (h1 : MG X c e vs g) (h2 : MGs X c es ws r)
    (hs : (assignEach (e :: es) X.env).map (·.2) = assign e X.env :: (assignEach es X.env).map (·.2) := by rfl) : MGs X c (e :: es) (vs ++ ws) (bCons g r) := fun k nd => by
  refine PGs.imp (pgs_cons (h1 k nd) (h2 k nd) hs) fun us σ H Q ⟨φ, ρ, S, ds, ρ', re, rs, rl, e, q⟩ => ?_
  cases ds with
  | nil => cases e
  | cons d ds =>
    unfold RepL at rl
    obtain ⟨v, vr, rfl, r1, r2⟩ := rl
    have e' : (g d ρ).bind (r ds) = some ρ' := e
    cases eg : g d ρ with
    | none => rw [eg] at e'; cases e'
    | some ρ1 =>
      rw [eg] at e'
      exact ⟨v, vr, rfl, φ, ρ, S, d, ρ1, re, rs, r1, eg, fun σ1 re1 sb1 => ⟨φ, ρ1, S, ds, ρ', re1, rs, r2, e', fun σ2 re2 sb2 => q σ2 re2 (sb1.trans sb2)⟩⟩
theorem mg_tup {es : List Expr} {k n : Nat} {vs : List Nat} {r : List D → Env → Option Env} (h : MGs X c es vs r) (hc : X.calm = true := by rfl)
    (hn : (assignEach es X.env).length = n := by rfl) (hst : (assignEach es X.env).findIdx? (·.1) = none := by rfl) : MG X c (.Tuple es k pos) vs (bTup n r) := fun kk nd => by
  refine PG.imp (pg_tup hc (h kk nd) hn hst) fun v σ H Q ⟨φ, ρ, S, d, ρ', re, rs, rv, e, q⟩ => ?_
  have go : ∀ xs : List D, (∃ a ys, v = .ref a ∧ SqT c.K H a ys ∧ RepL c H φ xs ys) → (if xs.length = n then r xs ρ else none) = some ρ' → gTup X.K n (TGsm c vs r) v σ H Q := fun xs w e' => by
    obtain ⟨a, ys, ev, h1, h2⟩ := w
    subst ev
    split at e'
    · rename_i hl
      rw [kk] at h1
      exact ⟨a, ys, rfl, h1, by rw [← h2.length]; exact hl, φ, ρ, S, xs, ρ', re, rs, h2, e', q⟩
    · cases e'
  cases d <;> first
    | (cases e; done)
    | skip
  · rename_i xs
    unfold RepV at rv
    obtain ⟨a, ys, h0, h1, h2⟩ := rv
    exact go xs ⟨a, ys, h0, h1.sq, h2⟩ e
  · rename_i xs
    unfold RepV at rv
    exact go xs rv e
theorem ms_bind {tg : Expr} {vs : List Nat} {g : D → Env → Option Env} (h : ME X c W a ea) (hg : MG X c tg vs g) (hs : swapsWithSole [tg] a pos.line X.env = pure false := by rfl) (hw : swappedStores [tg] a X.env = pure none := by rfl)
    (h1 : (assignEach [tg] X.env).map (·.2) = [assign tg X.env] := by rfl) : MS X c W (.Assign [tg] a pos) (sBind g ea) := fun s => by
  refine PS.imp (ps_asg (h s) (hg s.kk s.nd) hs hw h1) fun D σ H ⟨φ, ρ, S, re, rs, o⟩ => ?_
  refine ⟨φ, ρ, S, re, rs, flow_out re rs o fun x S' φ' H' y e s' q re' o' => ?_⟩
  cases eg : g x ρ with
  | none => rw [eg] at o'; exact o'.elim
  | some ρ' =>
    rw [eg] at o'
    exact ⟨φ', ρ, S', x, ρ', re', s', q, eg, fun σ' re2 _ => o' φ' H' σ' (.refl _ _) s' re2⟩
theorem ms_par (i j : Nat) {x y : Str} {px py pt : Pos} {kt k2 : Nat} {pt2 : Pos} (ha : ME X c W a ea) (hb : ME X c W b eb) (hc : X.calm = true := by rfl) (hi : X.N[i]? = some x := by rfl) (hj : X.N[j]? = some y := by rfl) (hij : i ≠ j := by decide)
    (hx : X.env.scope.names.lookup x = some .local := by rfl) (hy : X.env.scope.names.lookup y = some .local := by rfl) (hsa : starEach [a, b] X.env = (false, eval a X.env) :: starEach [b] X.env := by rfl) (hsb : starEach [b] X.env = (false, eval b X.env) :: starEach [] X.env := by rfl)
    (hw : swappedStores [.Tuple [.Name x px, .Name y py] kt pt] (.Tuple [a, b] k2 pt2) X.env = pure (some [x, y]) := by rfl)
    (hs : swapsWithSole [.Tuple [.Name x px, .Name y py] kt pt] (.Tuple [a, b] k2 pt2) pos.line X.env = pure false := by rfl) :
    MS X c W (.Assign [.Tuple [.Name x px, .Name y py] kt pt] (.Tuple [a, b] k2 pt2) pos) (sPar i j ea eb) := fun s => by
  refine PS.imp (ps_par hc s.nd hi hj hij hx hy (pa_cons (ha s) (pa_cons (hb s) pa_nil hsb) hsa) hw hs) fun D σ H ⟨φ, ρ, S, re, rs, o⟩ => ?_
  refine ⟨φ, ρ, S, re, rs, flow_out re rs o fun x S1 φ1 H1 y e1 s1 r1 re1 o1 => ?_⟩
  refine ⟨φ1, ρ, S1, re1, s1, flow_out re1 s1 o1 fun x2 S2 φ2 H2 y2 e2 s2 r2 re2 o2 => ?_⟩
  refine ⟨y, y2, rfl, o2 φ2 H2 _ (.refl _ _) s2 ((re2.set (RepV.ext s1.ls e2 _ _ r1)).set r2)⟩
/-! o[i] = e -/
def SetD (X : Cx) (c : Cz) (g : D → D → D → Sto → Option Sto) : Prop :=
  c.K = X.K → PSet X fun o i v H Q => ∃ φ S a k d, RepS c H φ S ∧ RepV c H φ a o ∧ RepV c H φ k i ∧ RepV c H φ d v ∧ ∃ S', g a k d S = some S' ∧ ∀ H', Ext H φ H' φ → RepS c H' φ S' → Q H'
theorem ms_sub {o i : Expr} {eo ei : Ev} {g : D → D → D → Sto → Option Sto} {tp : Pos} (hs : SetD X c g) (ha : ME X c W a ea) (ho : ME X c W o eo) (hi : ME X c W i ei)
    (hsw : swapsWithSole [.Subscript o i tp] a pos.line X.env = pure false := by rfl) (hw : swappedStores [.Subscript o i tp] a X.env = pure none := by rfl) (h1 : (assignEach [.Subscript o i tp] X.env).map (·.2) = [assign (.Subscript o i tp) X.env] := by rfl)
    (hb : ∀ v, assign (.Subscript o i tp) X.env v = (do
      let ov ← holding [v] (eval o X.env)
      let iv ← holding [v, ov] (eval i X.env)
      standAt tp
      holding [v, ov, iv] (setItem ov iv v)
      release [v, ov, iv] []) := by intro _; rfl) : MS X c W (.Assign [.Subscript o i tp] a pos) (sSub g eo ei ea) := fun s => by
  refine PS.imp (ps_asg (ha s) (pg_sub (ho s) (hi s) (hs s.kk) hb) hsw hw h1) fun D σ H ⟨φ, ρ, S, re, rs, q⟩ => ?_
  refine ⟨φ, ρ, S, re, rs, flow_out re rs q fun x1 S1 φ1 H1 y1 e1 s1 r1 re1 o1 => ?_⟩
  refine ⟨φ1, ρ, S1, re1, s1, flow_out re1 s1 o1 fun x2 S2 φ2 H2 y2 e2 s2 r2 re2 o2 => ?_⟩
  refine ⟨φ2, ρ, S2, re2, s2, flow_out re2 s2 o2 fun x3 S3 φ3 H3 y3 e3 s3 r3 re3 o3 => ?_⟩
  cases eg : g x2 x3 x1 S3 with
  | none => rw [eg] at o3; exact o3.elim
  | some S4 =>
    rw [eg] at o3
    exact ⟨φ3, S3, x2, x3, x1, s3, RepV.ext s2.ls e3 _ _ r2, r3, RepV.ext s1.ls (e2.trans e3) _ _ r1, S4, eg, fun H' e' s' => o3 φ3 H' σ e' s' (re3.ext s3 e')⟩
/-! name op= e -/
def IpD (X : Cx) (c : Cz) (op : Operator) (g : D → D → Sto → Option (D × Sto)) : Prop :=
  c.K = X.K → PIp X op fun x y H Q => ∃ φ S d e, RepS c H φ S ∧ RepV c H φ d x ∧ RepV c H φ e y ∧ OutO c H φ (RepV c) (g d e S) Q
theorem ms_aug (i : Nat) {x : Str} {op : Operator} {g : D → D → Sto → Option (D × Sto)} {pos' : Pos} (hp : IpD X c op g) (ha : ME X c W a ea) (hi : X.N[i]? = some x := by rfl) (hx : Loc X.env.scope x := by first | exact Or.inl rfl | exact Or.inr rfl) (hf : X.fn x = true ∨ X.env.scope.names.lookup x = some .local := by first | exact .inl rfl | exact .inr rfl) :
    MS X c W (.AugAssign (.Name x pos') op a pos) (sAug i g ea) := fun s => by
  refine PS.imp (ps_aug s.nd hi hx (ha s) (hp s.kk) hf) fun D σ H ⟨φ, ρ, S, re, rs, o⟩ => ?_
  unfold sAug at o
  split at o
  · rename_i dd q
    obtain ⟨v, h1, h2⟩ := re.2 i dd q
    refine ⟨v, h1, φ, ρ, S, re, rs, flow_out re rs o fun x1 S1 φ1 H1 y1 e1 s1 r1 re1 o1 => ?_⟩
    refine ⟨φ1, S1, dd, x1, s1, RepV.ext rs.ls e1 _ _ h2, r1, ?_⟩
    cases eg : g dd x1 S1 with
    | none => rw [eg] at o1; exact o1.elim
    | some p =>
      obtain ⟨z, S2⟩ := p
      rw [eg] at o1
      intro φ2 H2 y2 e2 s2 r2
      exact o1 φ2 H2 _ e2 s2 ((re1.ext s1 e2).set r2)
  · exact o.elim

/-! ### loops -/
def ItOk (c : Cz) (z : Src) (J : It) (H : Hp) (φ : List Addr) : Prop :=
  ∀ (H2 : Hp) (φ2 : List Addr) (S2 : Sto) (i : Nat), Ext H φ H2 φ2 → RepS c H2 φ2 S2 → z.st S2 →
    (∀ x, z.xs[i]? = some x → J.go i H2 ∧ ∀ v H3, J.yld i H2 v H3 → Ext H2 φ2 H3 φ2 ∧ RepS c H3 φ2 S2 ∧ RepV c H3 φ2 x v) ∧ (z.xs.length ≤ i → J.stop i H2)
def TIm (c : Cz) (W : WX) (ev : Env → Sto → Res Src) : TI := fun σ H R => ∃ φ ρ S, RepE c H φ ρ σ ∧ RepS c H φ S ∧ Out c H φ (fun H' φ' z J => ItOk c z J H' φ') (ev ρ S) R (fun cls d H' => W cls d σ H')
def MI (X : Cx) (c : Cz) (W : WX) (tg iter : Expr) (ev : Env → Sto → Res Src) : Prop := Sh X c W → PI X tg iter (TIm c W ev)
theorem PI.imp {tg e : Expr} {t t' : TI} (h : PI X tg e t) (k : ∀ σ H Q, t' σ H Q → t σ H Q) : PI X tg e t' := ⟨fun pins s σ H Q I q => h.run pins s σ H Q I (k σ H Q q)⟩
theorem ms_for {tg iter : Expr} {vs : List Nat} {g : D → Env → Option Env} {src : Env → Sto → Res Src} {body : List Stmt} {eb : Es} (hi : MI X c W tg iter src) (hg : MG X c tg vs g) (hb : MSs X c W body eb) (hc : X.calm = true := by rfl)
    (hs : ∀ x, foldedSetIterable iter X.env x = pure x := by intro _; rfl) : MS X c W (.For tg iter body [] pos) (sFor src g eb) := fun s => by
  refine PS.imp (ps_for s.ow hc (hi s) (hg s.kk s.nd) (hb s) hs) fun D σ H ⟨φ, ρ, S, re, rs, o⟩ => ?_
  refine ⟨φ, ρ, S, re, rs, flow_out re rs o fun z S1 φ1 H1 J e1 s1 it re1 o1 => ?_⟩
  refine ⟨fun i m σ H2 => m = z.xs.length - i ∧ i ≤ z.xs.length ∧ ∃ φ2 ρ2 S2, Ext H1 φ1 H2 φ2 ∧ RepE c H2 φ2 ρ2 σ ∧ RepS c H2 φ2 S2 ∧ OutF c W H2 φ2 (forLoop z.st g eb (z.xs.drop i) ρ2 S2) D,
    ⟨z.xs.length, by simp, Nat.zero_le _, φ1, ρ, S1, .refl _ _, re1, s1, o1⟩, ?_⟩
  rintro i m σ2 H2 ⟨rfl, hle, φ2, ρ2, S2, e2, re2, s2, o2⟩
  by_cases hlt : i < z.xs.length
  · refine .inr ?_
    have hx : z.xs[i]? = some z.xs[i] := List.getElem?_eq_getElem hlt
    rw [List.drop_eq_getElem_cons hlt] at o2
    unfold forLoop at o2
    split at o2
    · rename_i hst
      obtain ⟨go, yl⟩ := (it H2 φ2 S2 i e2 s2 hst).1 _ hx
      split at o2
      · exact o2.elim
      · rename_i ρ3 eg
        refine ⟨go, fun σ' H' => i + 1 ≤ z.xs.length ∧ ∃ φ2 ρ2 S2, Ext H1 φ1 H' φ2 ∧ RepE c H' φ2 ρ2 σ' ∧ RepS c H' φ2 S2 ∧ OutF c W H' φ2 (forLoop z.st g eb (z.xs.drop (i + 1)) ρ2 S2) D,
          fun σ' H' n => ⟨z.xs.length - (i + 1), by omega, rfl, n⟩, fun v H3 y => ?_⟩
        obtain ⟨e3, s3, r3⟩ := yl v H3 y
        refine ⟨φ2, ρ2, S2, _, ρ3, re2.ext s2 e3, s3, r3, eg, fun σ3 re3 _ => ⟨φ2, ρ3, S2, re3, s3, ?_⟩⟩
        have o3 := OutF.later o2 e3
        have e13 := e2.trans e3
        revert o3
        cases eb ρ3 S2 with
        | next ρ4 S4 => intro o3 φ4 H4 σ4 e4 s4 re4; exact ⟨hlt, φ4, ρ4, S4, e13.trans e4, re4, s4, OutF.later o3 e4⟩
        | cont ρ4 S4 => intro o3 φ4 H4 σ4 e4 s4 re4; exact ⟨hlt, φ4, ρ4, S4, e13.trans e4, re4, s4, OutF.later o3 e4⟩
        | brk ρ4 S4 => intro o3; exact o3
        | ret d S4 => intro o3; exact o3
        | exc n ns ds ρ4 S4 => intro o3; exact o3
        | stuck => intro o3; exact o3
    · exact o2.elim
  · refine .inl ?_
    have : z.xs.drop i = [] := List.drop_eq_nil_of_le (by omega)
    rw [this] at o2
    unfold forLoop at o2
    split at o2
    · rename_i hst
      exact ⟨(it H2 φ2 S2 i e2 s2 hst).2 (by omega), o2 φ2 H2 σ2 (.refl _ _) s2 re2⟩
    · exact o2.elim
theorem ms_while {t : Expr} {et : EvB} {body : List Stmt} {eb : Es} (ht : MT X c W t et) (hb : MSs X c W body eb) : MS X c W (.While t body [] pos) (sWhile et eb) := fun s => by
  refine PS.imp (ps_while s.ow (ht s) (hb s)) fun D σ H ⟨φ, ρ, S, re, rs, o⟩ => ?_
  refine ⟨fun m σ H2 => ∃ φ2 ρ2 S2, RepE c H2 φ2 ρ2 σ ∧ RepS c H2 φ2 S2 ∧ OutF c W H2 φ2 (whileLoop et eb m ρ2 S2) D, ⟨fuel, φ, ρ, S, re, rs, o⟩, ?_⟩
  rintro m σ2 H2 ⟨φ2, ρ2, S2, re2, s2, o2⟩
  cases m with
  | zero => exact o2.elim
  | succ m =>
    unfold whileLoop at o2
    refine ⟨φ2, ρ2, S2, re2, s2, flow_out re2 s2 o2 fun k S3 φ3 H3 y e3 s3 q re3 o3 => ?_⟩
    unfold eqB at q
    subst q
    cases k with
    | true =>
      refine iteT ⟨fun σ' H' => ∃ φ2 ρ2 S2, RepE c H' φ2 ρ2 σ' ∧ RepS c H' φ2 S2 ∧ OutF c W H' φ2 (whileLoop et eb m ρ2 S2) D, fun σ' H' n => ⟨m, Nat.lt_succ_self m, n⟩, φ3, ρ2, S3, re3, s3, ?_⟩
      rw [if_pos rfl] at o3
      revert o3
      cases eb ρ2 S3 with
      | next ρ4 S4 => intro o3 φ4 H4 σ4 e4 s4 re4; exact ⟨φ4, ρ4, S4, re4, s4, OutF.later o3 e4⟩
      | cont ρ4 S4 => intro o3 φ4 H4 σ4 e4 s4 re4; exact ⟨φ4, ρ4, S4, re4, s4, OutF.later o3 e4⟩
      | brk ρ4 S4 => intro o3; exact o3
      | ret d S4 => intro o3; exact o3
      | exc n ns ds ρ4 S4 => intro o3; exact o3
      | stuck => intro o3; exact o3
    | false => exact iteF (o3 φ3 H3 σ2 (.refl _ _) s3 re3)

/-! what is walked -/
def srcOf (d : D) (S : Sto) : Option Src := match d with
  | .lst l => (S[l]?).map fun xs => ⟨xs, fun S' => S'[l]? = some xs⟩
  | .tup xs => some ⟨xs, fun _ => True⟩
  | .frl xs => some ⟨xs, fun _ => True⟩
  | _ => none
def iSeq (a : Ev) : Env → Sto → Res Src := fun ρ S => (a ρ S).bind fun d S1 => match srcOf d S1 with
  | some z => .ok z S1
  | none => .stuck
end
end MP
end
section
set_option Elab.async false
set_option linter.all false
set_option maxRecDepth 100000
set_option maxHeartbeats 4000000
/-! MP3: what is walked, comprehensions, calls of defs, defs, errors raised and caught. -/
namespace MP
open PySem PySem.Spec PyProof.Rows L2

section
variable {X : Cx} {c : Cz} {W : WX} {a b d : Expr} {ea eb ed : Ev} {pos : Pos} {st : Stmt} {rest : List Stmt} {u v : Es} {sa sb : List Stmt}
variable {tg : Expr}
/-- a list or a tuple, walked -/
def iEither (K : PySem.W.Frag) (tl : TE) : TI := fun σ H R => tl σ H fun x H1 => ∃ a, x = .ref a ∧ ((∃ xs, SqL K H1 a xs ∧ R (Itl K a) H1) ∨ (∃ xs, SqT K H1 a xs ∧ R (Itt K a) H1))
theorem pi_either {l : Expr} {tl : TE} (hl : PE X l tl) : PI X tg l (iEither X.K tl) := by
  constructor
  intro pins s σ H R I h
  apply thn (hl.run pins s σ H _ I h)
  rintro v s1 ⟨x, H1, I1, r1, a, rfl, q⟩
  cases r1
  have fresh : ∀ b ∈ [s1.heap.objs.size], FpOk X pins H1 b := fun b hb => by
    have eb : b = s1.heap.objs.size := by simpa using hb
    subst eb
    exact I1.fpOk (Nat.le_refl _) (I1.hok.fresh (Nat.le_refl _))
  rcases q with ⟨xs, hq, q⟩ | ⟨xs, hq, q⟩
  · obtain ⟨its, rv, pl, hz⟩ := I1.list hq
    apply wpAny_pyIter_list pl.isList
    exact ⟨s1.heap.objs.size, [s1.heap.objs.size], _, _, H1, rfl, I1.kept (t' := s1.toks) fun b o z => Heap.get?_push_of_some _ z, turn_list a _, ⟨_, Heap.get?_push_size _ rfl, rfl, rfl⟩, fresh, q⟩
  · obtain ⟨its, rv, pl, hz⟩ := I1.tuple hq
    apply wpAny_pyIter_tuple (show s1.heap.IsTuple a its.toArray from pl)
    exact ⟨s1.heap.objs.size, [s1.heap.objs.size], _, _, H1, rfl, I1.kept (t' := s1.toks) fun b o z => Heap.get?_push_of_some _ z, turn_tuple a _, ⟨_, Heap.get?_push_size _ rfl, rfl, rfl⟩, fresh, q⟩
theorem itl_ok {z : Src} {a : Addr} {H : Hp} {φ : List Addr} (h : ∀ H2 φ2 S2, Ext H φ H2 φ2 → RepS c H2 φ2 S2 → z.st S2 → ∃ us, SqL c.K H2 a us ∧ RepL c H2 φ2 z.xs us) : ItOk c z (Itl c.K a) H φ := by
  intro H2 φ2 S2 i e s hst
  obtain ⟨us, sq, rl⟩ := h H2 φ2 S2 e s hst
  refine ⟨fun x hx => ?_, fun hl => ⟨us, sq, by rw [← rl.length]; exact hl⟩⟩
  obtain ⟨v, hv, rv⟩ := rl.get hx
  refine ⟨⟨us, v, sq, hv⟩, fun v' H3 ⟨e3, y⟩ => ?_⟩
  subst e3
  have := y us sq
  rw [hv] at this
  cases this
  exact ⟨.refl _ _, s, rv⟩
theorem itt_ok {z : Src} {a : Addr} {H : Hp} {φ : List Addr} (h : ∀ H2 φ2 S2, Ext H φ H2 φ2 → RepS c H2 φ2 S2 → z.st S2 → ∃ us, SqT c.K H2 a us ∧ RepL c H2 φ2 z.xs us) : ItOk c z (Itt c.K a) H φ := by
  intro H2 φ2 S2 i e s hst
  obtain ⟨us, sq, rl⟩ := h H2 φ2 S2 e s hst
  refine ⟨fun x hx => ?_, fun hl => ⟨us, sq, by rw [← rl.length]; exact hl⟩⟩
  obtain ⟨v, hv, rv⟩ := rl.get hx
  refine ⟨⟨us, v, sq, hv⟩, fun v' H3 ⟨e3, y⟩ => ?_⟩
  subst e3
  have := y us sq
  rw [hv] at this
  cases this
  exact ⟨.refl _ _, s, rv⟩
/-- what stands behind a value that is walked -/
theorem src_at {d : D} {v : V} {z : Src} {H : Hp} {φ : List Addr} {S : Sto} (rs : RepS c H φ S) (r : RepV c H φ d v) (e : srcOf d S = some z) :
    ∃ a, v = .ref a ∧ ((∃ us, SqL c.K H a us ∧ RepL c H φ z.xs us ∧ (∀ H2 φ2 S2, Ext H φ H2 φ2 → RepS c H2 φ2 S2 → z.st S2 → ∃ us, SqL c.K H2 a us ∧ RepL c H2 φ2 z.xs us)) ∨
      (∃ us, SqT c.K H a us ∧ RepL c H φ z.xs us ∧ (∀ H2 φ2 S2, Ext H φ H2 φ2 → RepS c H2 φ2 S2 → z.st S2 → ∃ us, SqT c.K H2 a us ∧ RepL c H2 φ2 z.xs us))) := by
  cases d <;> first
    | (cases e; done)
    | skip
  · -- a tuple
    rename_i xs
    cases e
    unfold RepV at r
    obtain ⟨a, us, rfl, sq, rl⟩ := r
    exact ⟨a, rfl, .inr ⟨us, sq.sq, rl, fun H2 φ2 S2 e s _ => ⟨us, SqT.ext rs.ls e sq.sq, RepL.ext rs.ls e _ _ rl⟩⟩⟩
  · rename_i l
    unfold RepV at r
    obtain ⟨a, rfl, hl, hkd⟩ := r
    have e : (S[l]?).map (fun xs => (⟨xs, fun S' => S'[l]? = some xs⟩ : Src)) = some z := e
    cases q : S[l]? with
    | none => rw [q] at e; cases e
    | some xs =>
      rw [q] at e
      cases e
      obtain ⟨a', us, h1, h2, h3⟩ := rs.at_ l xs q hl hkd
      rw [hl] at h1
      cases h1
      refine ⟨a, rfl, .inl ⟨us, SqL.of h2, h3, fun H2 φ2 S2 e s hst => ?_⟩⟩
      obtain ⟨a2, us2, g1, g2, g3⟩ := s.at_ l xs hst (pre_get e.pre hl) (e.lk hl hkd)
      rw [pre_get e.pre hl] at g1
      cases g1
      exact ⟨us2, SqL.of g2, g3⟩
  · rename_i xs
    cases e
    unfold RepV at r
    obtain ⟨a, us, rfl, sq, rl⟩ := r
    exact ⟨a, rfl, .inl ⟨us, sq.sq, rl, fun H2 φ2 S2 e s _ => ⟨us, (Frz.ext rs.ls e sq).sq, RepL.ext rs.ls e _ _ rl⟩⟩⟩
theorem mi_seq (h : ME X c W a ea) : MI X c W tg a (iSeq ea) := fun s => by
  refine PI.imp (pi_either (h s)) fun σ H R ⟨φ, ρ, S, re, rs, o⟩ => ?_
  refine ⟨φ, ρ, S, re, rs, Out.bind o fun x S1 φ1 H1 v e1 s1 r1 o1 => ?_⟩
  cases eq : srcOf x S1 with
  | none => rw [eq] at o1; exact o1.elim
  | some z =>
    rw [eq] at o1
    obtain ⟨a', rfl, q⟩ := src_at s1 r1 eq
    rw [← s.kk]
    refine ⟨a', rfl, ?_⟩
    rcases q with ⟨us, sq, rl, k⟩ | ⟨us, sq, rl, k⟩
    · exact .inl ⟨us, sq, o1 φ1 H1 _ (.refl _ _) s1 (itl_ok k)⟩
    · exact .inr ⟨us, sq, o1 φ1 H1 _ (.refl _ _) s1 (itt_ok k)⟩
/-- range(n), range(a, b) -/
def rngL (lo : Int) (n : Nat) : List D := (List.range n).map fun (k : Nat) => D.int (lo + (k : Int))
theorem rngL_get {lo : Int} {n i : Nat} {x : D} (h : (rngL lo n)[i]? = some x) : i < n ∧ x = .int (lo + i) := by
  unfold rngL at h
  rw [List.getElem?_map] at h
  by_cases hi : i < n
  · rw [List.getElem?_range hi] at h
    cases h
    exact ⟨hi, rfl⟩
  · rw [List.getElem?_eq_none (by simpa using hi)] at h
    cases h
theorem rngL_length (lo : Int) (n : Nat) : (rngL lo n).length = n := by unfold rngL; simp
def rng1 (ds : List D) (S : Sto) : Res Src := match ds with
  | [.int j] => if j < 2 ^ 62 ∧ -(2 ^ 62) ≤ j then .ok ⟨rngL 0 j.toNat, fun _ => True⟩ S else .stuck
  | _ => .stuck
def rng2 (ds : List D) (S : Sto) : Res Src := match ds with
  | [.int i, .int j] => if (i < 2 ^ 62 ∧ -(2 ^ 62) ≤ i) ∧ j < 2 ^ 62 ∧ -(2 ^ 62) ≤ j then .ok ⟨rngL i (j - i).toNat, fun _ => True⟩ S else .stuck
  | _ => .stuck
def iRange (f : List D → Sto → Res Src) (ra : EvA) : Env → Sto → Res Src := fun ρ S => (ra ρ S).bind f
theorem itr_ok {lo : Int} {n : Nat} {H : Hp} {φ : List Addr} : ItOk c ⟨rngL lo n, fun _ => True⟩ (Itr lo n) H φ := by
  intro H2 φ2 S2 i e s _
  refine ⟨fun x hx => ?_, fun hl => by rw [rngL_length] at hl; exact hl⟩
  obtain ⟨hi, rfl⟩ := rngL_get hx
  refine ⟨hi, fun v H3 ⟨e3, ev⟩ => ?_⟩
  subst e3 ev
  exact ⟨.refl _ _, s, by unfold RepV; rfl⟩
variable {es : List Expr} {ra : EvA}
theorem mi_range1 {p : Pos} (h : MA X c W [a] ra) (hm : X.mg "range" = none) (hg : Gl X "range" := by rfl) (hs : starEach [a] X.env = [(false, eval a X.env)] := by rfl) : MI X c W tg (.Call (.Name "range" p) [a] [] pos) (iRange rng1 ra) := fun s => by
  refine PI.imp (pi_range1 hg hm (h s) hs) fun σ H R ⟨φ, ρ, S, re, rs, o⟩ => ?_
  refine ⟨φ, ρ, S, re, rs, Out.bind o fun x S1 φ1 H1 v e1 s1 r1 o1 => ?_⟩
  unfold rng1 at o1
  split at o1
  · rename_i j
    split at o1
    · rename_i hj
      unfold RepL at r1
      obtain ⟨v1, vr, rfl, r2, r3⟩ := r1
      unfold RepV at r2
      unfold RepL at r3
      subst r2 r3
      exact ⟨j, rfl, hj.2, hj.1, o1 φ1 H1 _ (.refl _ _) s1 itr_ok⟩
    · exact o1.elim
  · exact o1.elim
theorem mi_range2 {p : Pos} (h : MA X c W [a, b] ra) (hm : X.mg "range" = none) (hg : Gl X "range" := by rfl) (hs : starEach [a, b] X.env = [(false, eval a X.env), (false, eval b X.env)] := by rfl) (hs2 : starEach [b] X.env = [(false, eval b X.env)] := by rfl) :
    MI X c W tg (.Call (.Name "range" p) [a, b] [] pos) (iRange rng2 ra) := fun s => by
  refine PI.imp (pi_range2 hg hm (h s) hs hs2) fun σ H R ⟨φ, ρ, S, re, rs, o⟩ => ?_
  refine ⟨φ, ρ, S, re, rs, Out.bind o fun x S1 φ1 H1 v e1 s1 r1 o1 => ?_⟩
  unfold rng2 at o1
  split at o1
  · rename_i i j
    split at o1
    · rename_i hj
      unfold RepL at r1
      obtain ⟨v1, vr, rfl, r2, r3⟩ := r1
      unfold RepL at r3
      obtain ⟨v2, vr2, rfl, r4, r5⟩ := r3
      unfold RepV at r2 r4
      unfold RepL at r5
      subst r2 r4 r5
      exact ⟨i, j, rfl, ⟨hj.1.2, hj.1.1, hj.2.2, hj.2.1⟩, o1 φ1 H1 _ (.refl _ _) s1 itr_ok⟩
    · exact o1.elim
  · exact o1.elim
/-- zip(a, b) of two lists, of two tuples -/
def zipD : List D → List D → List D
  | x :: xs, y :: ys => .wk [x, y] :: zipD xs ys
  | _, _ => []
theorem zipD_length : ∀ xs ys : List D, (zipD xs ys).length = min xs.length ys.length
  | [], ys => by unfold zipD; simp
  | x :: xs, [] => by unfold zipD; simp
  | x :: xs, y :: ys => by unfold zipD; simp [zipD_length xs ys, Nat.succ_min_succ]
theorem zipD_get : ∀ {xs ys : List D} {i : Nat} {t : D}, (zipD xs ys)[i]? = some t → ∃ x y, t = .wk [x, y] ∧ xs[i]? = some x ∧ ys[i]? = some y
  | [], ys, i, t, h => by unfold zipD at h; simp at h
  | x :: xs, [], i, t, h => by unfold zipD at h; simp at h
  | x :: xs, y :: ys, 0, t, h => by unfold zipD at h; simp at h; exact ⟨x, y, h.symm, rfl, rfl⟩
  | x :: xs, y :: ys, i + 1, t, h => by
    unfold zipD at h
    obtain ⟨x', y', e, h1, h2⟩ := zipD_get (xs := xs) (ys := ys) (i := i) (t := t) (by simpa using h)
    exact ⟨x', y', e, by simpa using h1, by simpa using h2⟩
def isTup : D → Bool
  | .tup _ => true
  | _ => false
def zipS (ds : List D) (S : Sto) : Res Src := match ds with
  | [x, y] => match srcOf x S, srcOf y S with
    | some z1, some z2 => if isTup x = isTup y then .ok ⟨zipD z1.xs z2.xs, fun S' => z1.st S' ∧ z2.st S'⟩ S else .stuck
    | _, _ => .stuck
  | _ => .stuck
theorem src_tup {d : D} {v : V} {z : Src} {H : Hp} {φ : List Addr} {S : Sto} (rs : RepS c H φ S) (r : RepV c H φ d v) (e : srcOf d S = some z) :
    ∃ a, v = .ref a ∧ ((isTup d = false ∧ ∃ us, SqL c.K H a us ∧ RepL c H φ z.xs us ∧ (∀ H2 φ2 S2, Ext H φ H2 φ2 → RepS c H2 φ2 S2 → z.st S2 → ∃ us, SqL c.K H2 a us ∧ RepL c H2 φ2 z.xs us)) ∨
      (isTup d = true ∧ ∃ us, SqT c.K H a us ∧ RepL c H φ z.xs us ∧ (∀ H2 φ2 S2, Ext H φ H2 φ2 → RepS c H2 φ2 S2 → z.st S2 → ∃ us, SqT c.K H2 a us ∧ RepL c H2 φ2 z.xs us))) := by
  cases d <;> first
    | (cases e; done)
    | skip
  · rename_i xs
    cases e
    unfold RepV at r
    obtain ⟨a, us, rfl, sq, rl⟩ := r
    exact ⟨a, rfl, .inr ⟨rfl, us, sq.sq, rl, fun H2 φ2 S2 e s _ => ⟨us, SqT.ext rs.ls e sq.sq, RepL.ext rs.ls e _ _ rl⟩⟩⟩
  · rename_i l
    unfold RepV at r
    obtain ⟨a, rfl, hl, hkd⟩ := r
    have e : (S[l]?).map (fun xs => (⟨xs, fun S' => S'[l]? = some xs⟩ : Src)) = some z := e
    cases q : S[l]? with
    | none => rw [q] at e; cases e
    | some xs =>
      rw [q] at e
      cases e
      obtain ⟨a', us, h1, h2, h3⟩ := rs.at_ l xs q hl hkd
      rw [hl] at h1
      cases h1
      refine ⟨a, rfl, .inl ⟨rfl, us, SqL.of h2, h3, fun H2 φ2 S2 e s hst => ?_⟩⟩
      obtain ⟨a2, us2, g1, g2, g3⟩ := s.at_ l xs hst (pre_get e.pre hl) (e.lk hl hkd)
      rw [pre_get e.pre hl] at g1
      cases g1
      exact ⟨us2, SqL.of g2, g3⟩
  · rename_i xs
    cases e
    unfold RepV at r
    obtain ⟨a, us, rfl, sq, rl⟩ := r
    exact ⟨a, rfl, .inl ⟨rfl, us, sq.sq, rl, fun H2 φ2 S2 e s _ => ⟨us, (Frz.ext rs.ls e sq).sq, RepL.ext rs.ls e _ _ rl⟩⟩⟩
theorem zip_turn {z1 z2 : Src} {H2 H3 : Hp} {φ2 : List Addr} {S2 : Sto} {us ws : List V} {x : D} {v : V} {i : Nat} (s : RepS c H2 φ2 S2) (r1 : RepL c H2 φ2 z1.xs us) (r2 : RepL c H2 φ2 z2.xs ws)
    (hx : (zipD z1.xs z2.xs)[i]? = some x) (y : ∃ T p q, v = .ref T ∧ H2 T = none ∧ H3 = upd H2 T (.tup [p, q]) ∧ us[i]? = some p ∧ ws[i]? = some q) : Ext H2 φ2 H3 φ2 ∧ RepS c H3 φ2 S2 ∧ RepV c H3 φ2 x v := by
  obtain ⟨T, p, q, rfl, hT, rfl, h1, h2⟩ := y
  obtain ⟨d, e, rfl, g1, g2⟩ := zipD_get hx
  obtain ⟨p', k1, k2⟩ := r1.get g1
  obtain ⟨q', k3, k4⟩ := r2.get g2
  rw [h1] at k1
  rw [h2] at k3
  cases k1
  cases k3
  obtain ⟨s2, e2⟩ := s.keep (H' := upd H2 T (.tup [p, q])) (upd_keep hT)
  refine ⟨e2, s2, ?_⟩
  unfold RepV
  exact ⟨T, [p, q], rfl, SqT.of upd_same, .cons (RepV.ext s.ls e2 _ _ k2) (.cons (RepV.ext s.ls e2 _ _ k4) .nil)⟩
theorem mi_zip {p tpos : Pos} {elts : List Expr} {kk : Nat} (h : MA X c W [a, b] ra) (hm : X.mg "zip" = none) (hg : Gl X "zip" := by rfl)
    (hs : starEach [a, b] X.env = (false, eval a X.env) :: starEach [b] X.env := by rfl) (hpl : (backTo pos (starEach [b] X.env)).any (·.1) = false := by rfl) : MI X c W (.Tuple elts kk tpos) (.Call (.Name "zip" p) [a, b] [] pos) (iRange zipS ra) := fun s => by
  refine PI.imp (RZ.pi_zipA hg hm (h s) hs hpl) fun σ H R ⟨φ, ρ, S, re, rs, o⟩ => ?_
  refine ⟨φ, ρ, S, re, rs, Out.bind o fun x S1 φ1 H1 v e1 s1 r1 o1 => ?_⟩
  unfold zipS at o1
  split at o1
  · rename_i x y
    unfold RepL at r1
    obtain ⟨v1, vr, rfl, r2, r3⟩ := r1
    unfold RepL at r3
    obtain ⟨v2, vr2, rfl, r4, r5⟩ := r3
    unfold RepL at r5
    subst r5
    split at o1
    · rename_i z1 z2 q1 q2
      split at o1
      · rename_i hab
        obtain ⟨a1, rfl, k1⟩ := src_tup s1 r2 q1
        obtain ⟨a2, rfl, k2⟩ := src_tup s1 r4 q2
        rw [← s.kk]
        rcases k1 with ⟨b1, us, sq1, rl1, k1⟩ | ⟨b1, us, sq1, rl1, k1⟩
        · rcases k2 with ⟨b2, ws, sq2, rl2, k2⟩ | ⟨b2, ws, sq2, rl2, k2⟩
          · refine ⟨a1, a2, us, ws, rfl, .inl ⟨sq1, sq2, o1 φ1 H1 _ (.refl _ _) s1 ?_⟩⟩
            intro H2 φ2 S2 i e s ⟨st1, st2⟩
            obtain ⟨us, sq1, rl1⟩ := k1 H2 φ2 S2 e s st1
            obtain ⟨ws, sq2, rl2⟩ := k2 H2 φ2 S2 e s st2
            refine ⟨fun x hx => ?_, fun hl => ⟨us, ws, sq1, sq2, ?_⟩⟩
            · obtain ⟨d, e, rfl, g1, g2⟩ := zipD_get hx
              obtain ⟨p', k1, _⟩ := rl1.get g1
              obtain ⟨q', k3, _⟩ := rl2.get g2
              refine ⟨⟨us, ws, p', q', sq1, sq2, k1, k3⟩, fun v H3 ⟨T, p, q, ev, hT, eH, y1, y2⟩ => ?_⟩
              exact zip_turn s rl1 rl2 hx ⟨T, p, q, ev, hT, eH, y1 us sq1, y2 ws sq2⟩
            · have hl : (zipD z1.xs z2.xs).length ≤ i := hl
              rw [zipD_length] at hl
              have l1 := rl1.length
              have l2 := rl2.length
              omega
          · rw [b1, b2] at hab
            cases hab
        · rcases k2 with ⟨b2, ws, sq2, rl2, k2⟩ | ⟨b2, ws, sq2, rl2, k2⟩
          · rw [b1, b2] at hab
            cases hab
          · refine ⟨a1, a2, us, ws, rfl, .inr ⟨sq1, sq2, o1 φ1 H1 _ (.refl _ _) s1 ?_⟩⟩
            intro H2 φ2 S2 i e s ⟨st1, st2⟩
            obtain ⟨us, sq1, rl1⟩ := k1 H2 φ2 S2 e s st1
            obtain ⟨ws, sq2, rl2⟩ := k2 H2 φ2 S2 e s st2
            refine ⟨fun x hx => ?_, fun hl => ⟨us, ws, sq1, sq2, ?_⟩⟩
            · obtain ⟨d, e, rfl, g1, g2⟩ := zipD_get hx
              obtain ⟨p', k1, _⟩ := rl1.get g1
              obtain ⟨q', k3, _⟩ := rl2.get g2
              refine ⟨⟨us, ws, p', q', sq1, sq2, k1, k3⟩, fun v H3 ⟨T, p, q, ev, hT, eH, y1, y2⟩ => ?_⟩
              exact zip_turn s rl1 rl2 hx ⟨T, p, q, ev, hT, eH, y1 us sq1, y2 ws sq2⟩
            · have hl : (zipD z1.xs z2.xs).length ≤ i := hl
              rw [zipD_length] at hl
              have l1 := rl1.length
              have l2 := rl2.length
              omega
      · exact o1.elim
    · exact o1.elim
  · exact o1.elim

/-! ### comprehensions -/
theorem kind_aside {H : Hp} {p : Addr} {us ws : List V} (hp : H p = some (.lst us)) (a : Addr) : kindO (upd H p (.lst ws) a) = kindO (H a) := by
  by_cases q : a = p
  · rw [q, upd_same, hp]
    rfl
  · rw [upd_ne q]
mutual
theorem RepV.aside {H : Hp} {φ : List Addr} {p : Addr} {us ws : List V} (hp : H p = some (.lst us)) : ∀ (d : D) (v : V), RepV c H φ d v → RepV c (upd H p (.lst ws)) φ d v
  | .non, _, h => by unfold RepV at h ⊢; exact h
  | .bl _, _, h => by unfold RepV at h ⊢; exact h
  | .int _, _, h => by unfold RepV at h ⊢; exact h
  | .str _, _, h => by unfold RepV at h ⊢; exact h
  | .tup ds, _, h => by
    unfold RepV at h ⊢
    obtain ⟨a, xs, e1, e2, e3⟩ := h
    refine ⟨a, xs, e1, ?_, RepL.aside hp ds xs e3⟩
    rcases e2 with ⟨o, e4, e2⟩ | e2
    · exact .inl ⟨o, e4, by rw [upd_ne (ne_of e2 hp (fun q => by cases q))]; exact e2⟩
    · exact .inr e2
  | .wk ds, _, h => by
    unfold RepV at h ⊢
    obtain ⟨a, xs, e1, e2, e3⟩ := h
    refine ⟨a, xs, e1, ?_, RepL.aside hp ds xs e3⟩
    rcases e2 with (e2 | ⟨o, e2⟩) | e2
    · exact .inl (.inl (by rw [upd_ne (ne_of e2 hp (fun q => by cases q))]; exact e2))
    · exact .inl (.inr ⟨o, by rw [upd_ne (ne_of e2 hp (fun q => by cases q))]; exact e2⟩)
    · exact .inr e2
  | .lst l, _, h => by
    unfold RepV at h ⊢
    obtain ⟨a, e1, e2, e3⟩ := h
    exact ⟨a, e1, e2, (kind_aside hp a).trans e3⟩
  | .dct l, _, h => by
    unfold RepV at h ⊢
    obtain ⟨a, e1, e2, e3⟩ := h
    exact ⟨a, e1, e2, (kind_aside hp a).trans e3⟩
  | .dtt l, _, h => by
    unfold RepV at h ⊢
    obtain ⟨a, e1, e2, e3⟩ := h
    exact ⟨a, e1, e2, (kind_aside hp a).trans e3⟩
  | .err n ns ds, _, h => by
    unfold RepV at h ⊢
    obtain ⟨a, C, d, vs, e1, e2, e3, e4, e5, e6⟩ := h
    exact ⟨a, C, d, vs, e1, e2, by rw [upd_ne (ne_of e3 hp (fun q => by cases (show HO.ext _ = HO.lst _ from q)))]; exact e3, by rw [upd_ne (ne_of e4 hp (fun q => by cases (show HO.ext _ = HO.lst _ from q)))]; exact e4, e5, RepL.aside hp ds vs e6⟩
  | .frl ds, _, h => by
    unfold RepV at h ⊢
    obtain ⟨a, xs, e1, e2, e3⟩ := h
    refine ⟨a, xs, e1, ?_, RepL.aside hp ds xs e3⟩
    rcases e2 with ⟨o, e2⟩ | e2
    · exact .inl ⟨o, by rw [upd_ne (ne_of e2 hp (fun q => by cases q))]; exact e2⟩
    · exact .inr e2
  | .exn n ns ds, _, h => by
    unfold RepV at h ⊢
    obtain ⟨a, cls, d, vs, e1, e2, e3, e4, e5, e6⟩ := h
    exact ⟨a, cls, d, vs, e1, e2, e3, by rw [upd_ne (ne_of e4 hp (fun q => by cases q))]; exact e4, e5, RepL.aside hp ds vs e6⟩
theorem RepL.aside {H : Hp} {φ : List Addr} {p : Addr} {us ws : List V} (hp : H p = some (.lst us)) : ∀ (ds : List D) (vs : List V), RepL c H φ ds vs → RepL c (upd H p (.lst ws)) φ ds vs
  | [], _, h => by unfold RepL at h ⊢; exact h
  | d :: ds, _, h => by
    unfold RepL at h ⊢
    obtain ⟨v, vr, e1, e2, e3⟩ := h
    exact ⟨v, vr, e1, RepV.aside hp d v e2, RepL.aside hp ds vr e3⟩
end
theorem RepS.aside {H : Hp} {φ : List Addr} {S : Sto} {p : Addr} {us ws : List V} (r : RepS c H φ S) (hp : H p = some (.lst us)) (np : p ∉ φ) : RepS c (upd H p (.lst ws)) φ S := by
  refine ⟨r.nd, r.len, fun l xs h => ?_⟩
  obtain ⟨a, h1, h2⟩ := r.cell l xs h
  have ha : upd H p (.lst ws) a = H a := upd_ne (fun q => np (by rw [← q]; exact List.mem_of_getElem? h1))
  refine ⟨a, h1, ?_⟩
  rcases h2 with ⟨vs, h2, h3⟩ | ⟨kvs, ds, h2, h3, h4⟩ | ⟨kvs, ds, h2, h3, h4⟩ | ⟨q0, kvs, ds, h2, h3, h4⟩
  · exact .inl ⟨vs, ha.trans h2, RepL.aside hp _ _ h3⟩
  · exact .inr (.inl ⟨kvs, ds, ha.trans h2, h3, RepL.aside hp _ _ h4⟩)
  · exact .inr (.inr (.inl ⟨kvs, ds, ha.trans h2, h3, RepL.aside hp _ _ h4⟩))
  · exact .inr (.inr (.inr ⟨q0, kvs, ds, ha.trans h2, h3, RepL.aside hp _ _ h4⟩))
theorem RepS.adopt {H : Hp} {φ : List Addr} {S : Sto} {p : Addr} {us : List V} {xs : List D} (r : RepS c H φ S) (hp : H p = some (.lst us)) (np : p ∉ φ) (hx : RepL c H φ xs us) : RepS c H (φ ++ [p]) (S ++ [xs]) := by
  have e : Ext H φ H (φ ++ [p]) → True := fun _ => trivial
  have up : ∀ (ds : List D) (vs : List V), RepL c H φ ds vs → RepL c H (φ ++ [p]) ds vs := fun ds vs h => grow ds vs h
  refine ⟨?_, by simp [r.len], fun l ys h => ?_⟩
  · rw [List.nodup_append]
    refine ⟨r.nd, by simp, fun a ha b hb => ?_⟩
    simp at hb
    subst hb
    exact fun q => np (q ▸ ha)
  · by_cases hl : l < S.length
    · rw [List.getElem?_append_left hl] at h
      obtain ⟨a, h1, h2⟩ := r.cell l ys h
      refine ⟨a, pre_get (List.prefix_append _ _) h1, ?_⟩
      rcases h2 with ⟨vs, h2, h3⟩ | ⟨kvs, ds, h2, h3, h4⟩ | ⟨kvs, ds, h2, h3, h4⟩ | ⟨q0, kvs, ds, h2, h3, h4⟩
      · exact .inl ⟨vs, h2, up _ _ h3⟩
      · exact .inr (.inl ⟨kvs, ds, h2, h3, up _ _ h4⟩)
      · exact .inr (.inr (.inl ⟨kvs, ds, h2, h3, up _ _ h4⟩))
      · exact .inr (.inr (.inr ⟨q0, kvs, ds, h2, h3, up _ _ h4⟩))
    · have hl' : l < (S ++ [xs]).length := (List.getElem?_eq_some_iff.mp h).1
      have el : l = S.length := by simp at hl'; omega
      subst el
      rw [List.getElem?_append_right (Nat.le_refl _)] at h
      simp at h
      subst h
      refine ⟨p, ?_, .inl ⟨us, hp, up _ _ hx⟩⟩
      rw [← r.len, List.getElem?_append_right (Nat.le_refl _)]
      simp
where
  grow : ∀ (ds : List D) (vs : List V), RepL c H φ ds vs → RepL c H (φ ++ [p]) ds vs
    | [], _, h => by unfold RepL at h ⊢; exact h
    | d :: ds, _, h => by
      unfold RepL at h ⊢
      obtain ⟨v, vr, e1, e2, e3⟩ := h
      exact ⟨v, vr, e1, growV d v e2, grow ds vr e3⟩
  growV : ∀ (d : D) (v : V), RepV c H φ d v → RepV c H (φ ++ [p]) d v
    | .non, _, h => by unfold RepV at h ⊢; exact h
    | .bl _, _, h => by unfold RepV at h ⊢; exact h
    | .int _, _, h => by unfold RepV at h ⊢; exact h
    | .str _, _, h => by unfold RepV at h ⊢; exact h
    | .tup ds, _, h => by
      unfold RepV at h ⊢
      obtain ⟨a, xs, e1, e2, e3⟩ := h
      exact ⟨a, xs, e1, e2, grow ds xs e3⟩
    | .wk ds, _, h => by
      unfold RepV at h ⊢
      obtain ⟨a, xs, e1, e2, e3⟩ := h
      exact ⟨a, xs, e1, e2, grow ds xs e3⟩
    | .lst l, _, h => by
      unfold RepV at h ⊢
      obtain ⟨a, e1, e2, e3⟩ := h
      exact ⟨a, e1, pre_get (List.prefix_append _ _) e2, e3⟩
    | .dct l, _, h => by
      unfold RepV at h ⊢
      obtain ⟨a, e1, e2, e3⟩ := h
      exact ⟨a, e1, pre_get (List.prefix_append _ _) e2, e3⟩
    | .dtt l, _, h => by
      unfold RepV at h ⊢
      obtain ⟨a, e1, e2, e3⟩ := h
      exact ⟨a, e1, pre_get (List.prefix_append _ _) e2, e3⟩
    | .err n ns ds, _, h => by
      unfold RepV at h ⊢
      obtain ⟨a, C, d, vs, e1, e2, e3, e4, e5, e6⟩ := h
      exact ⟨a, C, d, vs, e1, e2, e3, e4, e5, grow ds vs e6⟩
    | .frl ds, _, h => by
      unfold RepV at h ⊢
      obtain ⟨a, xs, e1, e2, e3⟩ := h
      exact ⟨a, xs, e1, e2, grow ds xs e3⟩
    | .exn n ns ds, _, h => by
      unfold RepV at h ⊢
      obtain ⟨a, cls, d, vs, e1, e2, e3, e4, e5, e6⟩ := h
      exact ⟨a, cls, d, vs, e1, e2, e3, e4, e5, grow ds vs e6⟩
theorem Ext.stays {H H' : Hp} {φ φ' : List Addr} {p : Addr} {o : HO} (e : Ext H φ H' φ') (hp : H p = some o) (np : p ∉ φ) : H' p = some o ∧ p ∉ φ' :=
  ⟨e.keep p o hp np, fun m => by
    have := e.new p m np
    rw [hp] at this
    cases this⟩
theorem wipe_at : ∀ (ws : List Nat) (σ : St) (j : Nat), (j ∈ ws → (wipe σ ws)[j]? = if j < σ.length then some none else none) ∧ (j ∉ ws → (wipe σ ws)[j]? = σ[j]?)
  | [], σ, j => ⟨fun h => by simp at h, fun _ => by unfold wipe; rfl⟩
  | w :: ws, σ, j => by
    obtain ⟨h1, h2⟩ := wipe_at ws σ j
    constructor
    · intro hm
      unfold wipe
      by_cases hj : w = j
      · subst hj
        by_cases hw : w < σ.length
        · rw [List.getElem?_set_self (by rw [wipe_length]; exact hw), if_pos hw]
        · rw [List.getElem?_eq_none (by simp [wipe_length]; omega), if_neg hw]
      · rw [List.getElem?_set_ne hj]
        rcases List.mem_cons.mp hm with e | e
        · exact absurd e.symm hj
        · exact h1 e
    · intro hm
      unfold wipe
      rw [List.getElem?_set_ne (fun q => hm (by simp [q]))]
      exact h2 (fun q => hm (List.mem_cons_of_mem _ q))
theorem wipe_eq : ∀ (ws : List Nat) {σ σ' : St}, σ'.length = σ.length → (∀ j, j ∉ ws → σ'[j]? = σ[j]?) → wipe σ' ws = wipe σ ws
  | [], σ, σ', hl, h => by
    unfold wipe
    exact List.ext_getElem? fun j => h j (by simp)
  | w :: ws, σ, σ', hl, h => by
    unfold wipe
    have key : ∀ (τ τ' : St), τ'.length = τ.length → (∀ j, j ≠ w → τ'[j]? = τ[j]?) → τ'.set w none = τ.set w none := fun τ τ' hl h => by
      refine List.ext_getElem? fun j => ?_
      by_cases hj : w = j
      · subst hj
        by_cases hw : w < τ.length
        · rw [List.getElem?_set_self hw, List.getElem?_set_self (by omega)]
        · rw [List.getElem?_eq_none (by simp; omega), List.getElem?_eq_none (by simp; omega)]
      · rw [List.getElem?_set_ne hj, List.getElem?_set_ne hj]
        exact h j (Ne.symm hj)
    refine key _ _ (by rw [wipe_length, wipe_length]; exact hl) fun j hj => ?_
    have w2 := wipe_at ws σ' j
    have w1 := wipe_at ws σ j
    by_cases hm : j ∈ ws
    · rw [w2.1 hm, w1.1 hm, hl]
    · rw [w2.2 hm, w1.2 hm]
      exact h j (by simp [hj, hm])
theorem RepE.wipe {H : Hp} {φ : List Addr} {ρ : Env} {σ : St} (h : RepE c H φ ρ σ) : ∀ ws : List Nat, RepE c H φ (wipeE ρ ws) (L2.wipe σ ws)
  | [] => h
  | w :: ws => (RepE.wipe h ws).unset
def MTs (X : Cx) (c : Cz) (W : WX) (ifs : List Expr) (ev : EvB) : Prop := Sh X c W → PTs X ifs (TTm c W ev)
theorem PTs.imp {es : List Expr} {t t' : TT} (h : PTs X es t) (k : ∀ σ H Q, t' σ H Q → t σ H Q) : PTs X es t' := ⟨fun pins s σ H Q I q => h.run pins s σ H Q I (k σ H Q q)⟩
theorem mts_nil : MTs X c W [] tTrue := fun _ => by
  refine PTs.imp pts_nil fun σ H Q ⟨φ, ρ, S, re, rs, o⟩ => ?_
  exact o φ H true (.refl _ _) rs rfl
theorem mts_one {t : Expr} {et : EvB} (h : MT X c W t et) : MTs X c W [t] et := fun s => pts_one (h s)
abbrev W0 : WX := fun _ _ _ _ => False
theorem Sh.blk (s : Sh X c W) (s0 : Shared) (H : Hp) (scope : Scope) (cenv : PySem.Env) (fp : List Addr) : Sh (X.blk s0 H scope cenv fp) c W0 := ⟨s.kk, s.mm, takes0, PassesOwn.never, s.nd⟩
/-- the reading of a comprehension -/
theorem lc_read {σ : St} {H : Hp} {Q : VK} {src : Env → Sto → Res Src} {g : D → Env → Option Env} {vs own : List Nat} {et : EvB} {ee : Ev} (hv : ∀ j ∈ vs, j ∈ own)
    (h : TEm c W (eLc src g et ee own) σ H Q) : tLc (TIm c W src) (TGm c vs g) (TTm c W0 et) (TEm c W0 ee) own σ H Q := by
  obtain ⟨φ, ρ, S, re, rs, o⟩ := h
  refine ⟨φ, ρ, S, re, rs, Out.bind o fun z S1 φ1 H1 J e1 s1 it o1 => ?_⟩
  have re1 := re.ext rs e1
  intro D' hD
  have npD : D' ∉ φ1 := fun m => by
    have q := s1.isl m
    rw [hD] at q
    exact q rfl
  have e0 : Ext H1 φ1 (upd H1 D' (.lst [])) φ1 := (s1.keep (upd_keep hD)).2
  refine ⟨fun i m H2 => m = z.xs.length - i ∧ i ≤ z.xs.length ∧ ∃ φ2 S2 acc us, Ext H1 φ1 H2 φ2 ∧ RepS c H2 φ2 S2 ∧ H2 D' = some (.lst us) ∧ D' ∉ φ2 ∧ RepL c H2 φ2 acc us ∧
      Out c H1 φ1 (RepV c) ((lcLoop z.st g et ee (wipeE ρ own) (z.xs.drop i) acc S2).bind fun acc S2 => .ok (.lst S2.length) (S2 ++ [acc])) Q (fun cls d H' => W cls d σ H'),
    ⟨z.xs.length, by simp, Nat.zero_le _, φ1, S1, [], [], e0, (s1.keep (upd_keep hD)).1, upd_same, npD, .nil, o1⟩, ?_⟩
  rintro i m H2 ⟨rfl, hle, φ2, S2, acc, us, e2, s2, h2D, n2D, ra, o2⟩
  by_cases hlt : i < z.xs.length
  · refine .inr ?_
    have hx : z.xs[i]? = some z.xs[i] := List.getElem?_eq_getElem hlt
    rw [List.drop_eq_getElem_cons hlt] at o2
    unfold lcLoop at o2
    split at o2
    · rename_i hst
      obtain ⟨go, yl⟩ := (it H2 φ2 S2 i e2 s2 hst).1 _ hx
      split at o2
      · exact o2.elim
      · rename_i ρ3 eg
        refine ⟨go, fun H' => i + 1 ≤ z.xs.length ∧ ∃ φ2 S2 acc us, Ext H1 φ1 H' φ2 ∧ RepS c H' φ2 S2 ∧ H' D' = some (.lst us) ∧ D' ∉ φ2 ∧ RepL c H' φ2 acc us ∧
            Out c H1 φ1 (RepV c) ((lcLoop z.st g et ee (wipeE ρ own) (z.xs.drop (i + 1)) acc S2).bind fun acc S2 => .ok (.lst S2.length) (S2 ++ [acc])) Q (fun cls d H' => W cls d σ H'),
          fun H' n => ⟨z.xs.length - (i + 1), by omega, rfl, n⟩, fun v H3 y => ?_⟩
        obtain ⟨e3, s3, r3⟩ := yl v H3 y
        obtain ⟨h3D, n3D⟩ := e3.stays h2D n2D
        have ra3 := RepL.ext s2.ls e3 _ _ ra
        have e13 := e2.trans e3
        refine ⟨φ2, wipeE ρ own, S2, _, ρ3, (re1.ext s1 e13).wipe own, s3, r3, eg, fun σ3 re3 sb => ⟨?_, φ2, ρ3, S2, re3, s3, ?_⟩⟩
        · have := wipe_eq own (σ := wipe σ own) (σ' := σ3) sb.1 fun j hj => sb.2 j fun q => hj (hv j q)
          rw [this]
          exact wipe_eq own (by rw [wipe_length]) fun j hj => (wipe_at own σ j).2 hj
        · revert o2
          cases et ρ3 S2 with
          | ok k S4 =>
            intro o2 φ4 H4 k' e4 s4 hk
            unfold eqB at hk
            subst hk
            obtain ⟨h4D, n4D⟩ := e4.stays h3D n3D
            have ra4 := RepL.ext s3.ls e4 _ _ ra3
            have e14 := e13.trans e4
            cases k with
            | true =>
              refine iteT ⟨φ4, ρ3, S4, re3.ext s3 e4, s4, ?_⟩
              have o2 : Out c H1 φ1 (RepV c) ((match ee ρ3 S4 with
                | .ok d S2 => if acc.length < 1000000 then lcLoop z.st g et ee (wipeE ρ own) (z.xs.drop (i + 1)) (acc ++ [d]) S2 else .stuck
                | .exc .. => .stuck
                | .stuck => .stuck).bind fun acc S2 => .ok (.lst S2.length) (S2 ++ [acc])) Q (fun cls d H' => W cls d σ H') := o2
              revert o2
              cases ee ρ3 S4 with
              | ok d S5 =>
                intro o2 φ5 H5 y5 e5 s5 r5
                obtain ⟨h5D, n5D⟩ := e5.stays h4D n4D
                have ra5 := RepL.ext s4.ls e5 _ _ ra4
                have e15 := e14.trans e5
                by_cases hlen : acc.length < 1000000
                · have o2 : Out c H1 φ1 (RepV c) ((if acc.length < 1000000 then lcLoop z.st g et ee (wipeE ρ own) (z.xs.drop (i + 1)) (acc ++ [d]) S5 else .stuck).bind fun acc S2 => .ok (.lst S2.length) (S2 ++ [acc])) Q (fun cls d H' => W cls d σ H') := o2
                  rw [if_pos hlen] at o2
                  refine ⟨us, h5D, ?_, hlt, φ5, S5, acc ++ [d], us ++ [y5], ?_, s5.aside h5D n5D, upd_same, n5D, RepL.aside h5D _ _ (ra5.append (.cons r5 .nil)), o2⟩
                  · rw [← ra.length]
                    exact Nat.lt_trans hlen (by decide)
                  · refine ⟨e15.pre, fun b o hb nb => ?_, e15.new, fun b hb => (kind_aside h5D b).trans (e15.kind b hb), fun b q u hb => by rw [upd_ne (ne_of_none hb hD)]; exact e15.lock b q u hb⟩
                    rw [upd_ne (ne_of_none hb hD)]
                    exact e15.keep b o hb nb
                · have o2 : Out c H1 φ1 (RepV c) ((if acc.length < 1000000 then lcLoop z.st g et ee (wipeE ρ own) (z.xs.drop (i + 1)) (acc ++ [d]) S5 else .stuck).bind fun acc S2 => .ok (.lst S2.length) (S2 ++ [acc])) Q (fun cls d H' => W cls d σ H') := o2
                  rw [if_neg hlen] at o2
                  exact o2.elim
              | exc n ns ds S5 => intro o2; exact o2.elim
              | stuck => intro o2; exact o2.elim
            | false =>
              exact iteF ⟨hlt, φ4, S4, acc, us, e14, s4, h4D, n4D, ra4, o2⟩
          | exc n ns ds S4 => intro o2; exact o2.elim
          | stuck => intro o2; exact o2.elim
    · exact o2.elim
  · refine .inl ?_
    have : z.xs.drop i = [] := List.drop_eq_nil_of_le (by omega)
    rw [this] at o2
    unfold lcLoop at o2
    split at o2
    · rename_i hst
      refine ⟨(it H2 φ2 S2 i e2 s2 hst).2 (by omega), o2 (φ2 ++ [D']) H2 _ ?_ (s2.adopt h2D n2D ra) ?_⟩
      · refine ⟨e2.pre.trans (List.prefix_append _ _), e2.keep, fun b hb nb => ?_, e2.kind, e2.lock⟩
        rcases List.mem_append.mp hb with hb | hb
        · exact e2.new b hb nb
        · simp at hb
          subst hb
          exact hD
      · unfold RepV
        refine ⟨D', rfl, ?_, by rw [h2D]; rfl⟩
        rw [← s2.len, List.getElem?_append_right (Nat.le_refl _)]
        simp
    · exact o2.elim
theorem me_lc {elt iter : Expr} {ifs : List Expr} {scope : Scope} {own : List (Str × Nat)} {src : Env → Sto → Res Src} {g : D → Env → Option Env} {vs : List Nat} {et : EvB} {ee : Ev}
    (hi : MI X c W tg iter src) (ok : BlkOk X.N X.env.scope scope own) (hg : ∀ (s : Shared) (H : Hp) (C : Addr) (cl : List (Str × Addr)) (fp : List Addr), MG (X.blk s H scope (compEnvC scope cl C X.env) fp) c tg vs g)
    (ht : ∀ (s : Shared) (H : Hp) (C : Addr) (cl : List (Str × Addr)) (fp : List Addr), MTs (X.blk s H scope (compEnvC scope cl C X.env) fp) c W0 ifs et) (he : ∀ (s : Shared) (H : Hp) (C : Addr) (cl : List (Str × Addr)) (fp : List Addr), ME (X.blk s H scope (compEnvC scope cl C X.env) fp) c W0 elt ee)
    (hv : ∀ j ∈ vs, j ∈ own.map (·.2)) (hc : X.calm = true := by rfl) (hs : ∀ x, foldedSetIterable iter X.env x = pure x := by intro _; rfl) :
    ME X c W (.ListComp elt [⟨tg, iter, ifs, 0⟩] scope pos) (eLc src g et ee (own.map (·.2))) := fun s => by
  refine PE.imp (pe_lc hc s.nd (hi s) ok (fun s' H C cl fp => hg s' H C cl fp s.kk s.nd) (fun s' H C cl fp => ht s' H C cl fp (s.blk ..)) (fun s' H C cl fp => he s' H C cl fp (s.blk ..)) hs) fun σ H Q h => ?_
  exact lc_read hv h
theorem ms_setLc (i : Nat) {y : Str} {py : Pos} {elt iter : Expr} {ifs : List Expr} {scope : Scope} {own : List (Str × Nat)} {src : Env → Sto → Res Src} {g : D → Env → Option Env} {vs : List Nat} {et : EvB} {ee : Ev} {spos : Pos}
    (hi : MI X c W tg iter src) (ok : BlkOk X.N X.env.scope scope own) (hg : ∀ (s : Shared) (H : Hp) (C : Addr) (cl : List (Str × Addr)) (fp : List Addr), MG (X.blk s H scope (compEnvC scope cl C X.env) fp) c tg vs g)
    (ht : ∀ (s : Shared) (H : Hp) (C : Addr) (cl : List (Str × Addr)) (fp : List Addr), MTs (X.blk s H scope (compEnvC scope cl C X.env) fp) c W0 ifs et) (he : ∀ (s : Shared) (H : Hp) (C : Addr) (cl : List (Str × Addr)) (fp : List Addr), ME (X.blk s H scope (compEnvC scope cl C X.env) fp) c W0 elt ee)
    (hv : ∀ j ∈ vs, j ∈ own.map (·.2)) (hy : X.N[i]? = some y := by rfl) (hyl : X.env.scope.names.lookup y = some .local := by rfl) (hsw : swapsWith (.ListComp elt [⟨tg, iter, ifs, 0⟩] scope pos) (some (.Name y py)) spos.line X.env = pure true := by exact sw_true rfl rfl rfl (by decide +kernel))
    (hc : X.calm = true := by rfl) (hs : ∀ x, foldedSetIterable iter X.env x = pure x := by intro _; rfl) :
    MS X c W (.Assign [.Name y py] (.ListComp elt [⟨tg, iter, ifs, 0⟩] scope pos) spos) (sAsg i (eLc src g et ee (own.map (·.2)))) := fun s => by
  refine PS.imp (ps_setLc hc s.nd hy hyl hsw (hi s) ok (fun s' H C cl fp => hg s' H C cl fp s.kk s.nd) (fun s' H C cl fp => ht s' H C cl fp (s.blk ..)) (fun s' H C cl fp => he s' H C cl fp (s.blk ..)) hs) fun D' σ H ⟨φ, ρ, S, re, rs, o⟩ => ?_
  refine lc_read (W := W) hv (Q := fun x H1 => gName i x σ H1 D'.nx) ⟨φ, ρ, S, re, rs, flow_out re rs o fun x S' φ' H' y e s' q re' o' => ?_⟩
  exact o' φ' H' _ (.refl _ _) s' (re'.set q)
end
end MP
end
section
set_option Elab.async false
set_option linter.all false
set_option maxRecDepth 100000
set_option maxHeartbeats 4000000
/-! MP4: calls of defs, defs, errors raised and caught. -/
namespace MP
open PySem PySem.Spec PyProof.Rows L2

/-- a def's promise: what the function rf on data says -/
def spEv (c : Cz) (n : Nat) (rf : List D → Sto → Res D) : Sp := fun vs H Q E => vs.length = n ∧ ∃ φ ds S, RepL c H φ ds vs ∧ RepS c H φ S ∧ Out c H φ (RepV c) (rf ds S) Q E
def eCall (n : Nat) (rf : List D → Sto → Res D) (ra : EvA) : Ev := fun ρ S => (ra ρ S).bind fun ds S1 => if ds.length = n then rf ds S1 else .stuck
def eCallK (n : Nat) (pm : List D → List D → List D) (rf : List D → Sto → Res D) (ra rk : EvA) : Ev := fun ρ S => (ra ρ S).bind fun ds S1 => (rk ρ S1).bind fun ks S2 => if (pm ds ks).length = n then rf (pm ds ks) S2 else .stuck
/-- a def's run -/
def flowRes : Flow → Res D
  | .ret d S => .ok d S
  | .next _ S => .ok .non S
  | .exc n ns ds _ S => .exc n ns ds S
  | _ => .stuck
@[simp] theorem flowRes_ret {d : D} {S : Sto} : flowRes (.ret d S) = .ok d S := rfl
@[simp] theorem flowRes_next {ρ : Env} {S : Sto} : flowRes (.next ρ S) = .ok .non S := rfl
@[simp] theorem flowRes_exc {n : Str} {ns : List Str} {ds : List D} {ρ : Env} {S : Sto} : flowRes (.exc n ns ds ρ S) = .exc n ns ds S := rfl
@[simp] theorem flowRes_stuck : flowRes .stuck = .stuck := rfl
def begins (n : Nat) (ds : List D) : Env := ds.map some ++ List.replicate (n - ds.length) none
def runDef (n : Nat) (ev : Es) (ds : List D) (S : Sto) : Res D := flowRes (ev (begins n ds) S)

section
variable {X : Cx} {c : Cz} {W : WX} {a b d : Expr} {ea eb ed : Ev} {pos : Pos} {es : List Expr} {ra rk : EvA} {k : Nat} {f : Addr} {fd : FuncData} {ps : List Str} {rf : List D → Sto → Res D} {x : Str} {p : Pos}
theorem me_call (F : FnOk X.prog X.w X.K X.mg X.base (L2.CX X.prog X.w) k f fd ps (spEv c ps.length rf)) (hr : Room k X.A) (hm : X.mg x = some (.ref f)) (hk : PySem.W.keepIn X.K (.ref f) = true) (hb : Binds X.K fd ps []) (ha : MA X c W (a :: es) ra) (hg : Gl X x := by rfl)
    (hdb : (x == ("__debug__" : Str)) = false := by decide) (he : starEach (a :: es) X.env = (false, eval a X.env) :: starEach es X.env := by rfl) (hpl : (backTo pos (starEach es X.env)).any (·.1) = false := by rfl) :
    ME X c W (.Call (.Name x p) (a :: es) [] pos) (eCall ps.length rf ra) := fun s => by
  refine PE.imp (pe_callS F hr hg hm hk hb (fun σ => passAt s.tk σ) (ha s) hdb he hpl) fun σ H Q ⟨φ, ρ, S, re, rs, o⟩ => ?_
  refine ⟨φ, ρ, S, re, rs, Out.bind o fun xs S1 φ1 H1 vs e1 s1 r1 o1 => ?_⟩
  split at o1
  · rename_i hl
    exact ⟨by rw [← r1.length]; exact hl, φ1, xs, S1, r1, s1, o1⟩
  · exact o1.elim
/-! keywords -/
def MK (X : Cx) (c : Cz) (W : WX) (kws : List Keyword) (ev : EvA) : Prop := Sh X c W → PK X kws (TAm c W ev)
theorem PK.imp {es : List Keyword} {t t' : TA} (h : PK X es t) (k : ∀ σ H Q, t' σ H Q → t σ H Q) : PK X es t' := ⟨fun pos pins s σ H Q I q => h.run pos pins s σ H Q I (k σ H Q q)⟩
theorem mk_nil : MK X c W [] aNil := fun _ => by
  refine PK.imp pk_nil fun σ H Q ⟨φ, ρ, S, re, rs, o⟩ => ?_
  exact o φ H [] (.refl _ _) rs .nil
theorem mk_cons {nm : Option Str} {kpos : Pos} {kws : List Keyword} (ha : ME X c W a ea) (hr : MK X c W kws ra) : MK X c W (⟨nm, a, kpos⟩ :: kws) (aCons ea ra) := fun s => by
  refine PK.imp (pk_cons (ha s) (hr s)) fun σ H Q ⟨φ, ρ, S, re, rs, o⟩ => ?_
  refine ⟨φ, ρ, S, re, rs, Out.bind o fun x S1 φ1 H1 v e1 s1 r1 o1 => ?_⟩
  refine ⟨φ1, ρ, S1, re.ext rs e1, s1, Out.bind o1 fun xs S2 φ2 H2 vs e2 s2 r2 o2 => ?_⟩
  exact o2 φ2 H2 _ (.refl _ _) s2 (.cons (RepV.ext s1.ls e2 _ _ r1) r2)
/-- how a call with keywords gives the parameters: n positional values, keywords named ks -/
structure KwB (K : PySem.W.Frag) (fd : FuncData) (ps ks : List Str) (n : Nat) (g : List Value → List Value → List Value) (gV : List V → List V → List V) (gD : List D → List D → List D) : Prop where
  to : ∀ (s : Shared) (us ws : List Value), us.length = n → ws.length = ks.length → BindsTo s fd ⟨us, ks.zip ws⟩ (ps.zip (g us ws))
  rel : ∀ {vs : List V} {us : List Value} {zs : List V} {ws : List Value}, vs.length = n → zs.length = ks.length → Vals vs us → Vals zs ws → Vals (gV vs zs) (g us ws)
  rep : ∀ {c : Cz} {H : Hp} {φ : List Addr} {ds es : List D} {vs zs : List V}, vs.length = n → zs.length = ks.length → RepL c H φ ds vs → RepL c H φ es zs → RepL c H φ (gD ds es) (gV vs zs)
/-- the number of what is given in the evaluator -/
def eKw (n m : Nat) (pn : Nat) (gD : List D → List D → List D) (rf : List D → Sto → Res D) (ra rk : EvA) : Ev := fun ρ S => (ra ρ S).bind fun ds S1 => (rk ρ S1).bind fun ks S2 => if ds.length = n ∧ ks.length = m ∧ (gD ds ks).length = pn then rf (gD ds ks) S2 else .stuck
theorem run_kw {pins : List (Addr × Obj)} {σ : St} {H : Hp} {s : Shared} {Q : VK} {us ws : List Value} {vs zs : List V} {ks : List Str} {n : Nat} {g : List Value → List Value → List Value} {gV : List V → List V → List V} {gD : List D → List D → List D} {sp : Sp}
    (F : FnOk X.prog X.w X.K X.mg X.base (L2.CX X.prog X.w) k f fd ps sp) (hr : Room k X.A) (hb : KwB X.K fd ps ks n g gV gD) (tk : Takes X W) (I : Inv X pins σ H s) (r : Vals vs us) (rz : Vals zs ws) (l1 : vs.length = n) (l2 : zs.length = ks.length) (h : sp (gV vs zs) H Q (WE W σ)) :
    wpAny (model X.prog X.w) X.A (call (.ref f) us (ks.zip ws)) (EP X pins σ Q) X.xe s := by
  have r2 := hb.rel l1 l2 r rz
  apply wpAny_call
  apply codeAny_mono (F.run X.A X.stack s H ⟨us, ks.zip ws⟩ (g us ws) (gV vs zs) Q (WE W σ) hr I.env0 (hb.to s us ws (r.length.symm.trans l1) (rz.length.symm.trans l2)) r2 h)
  intro res s' hq
  match res, hq with
  | .error e, hq => exact passAt tk σ pins H s e s' I hq
  | .ok (.ret _), hq => exact I.after hq
theorem me_callK {kws : List Keyword} {ks : List Str} {n : Nat} {g : List Value → List Value → List Value} {gV : List V → List V → List V} {gD : List D → List D → List D}
    (F : FnOk X.prog X.w X.K X.mg X.base (L2.CX X.prog X.w) k f fd ps (spEv c ps.length rf)) (hr : Room k X.A) (hm : X.mg x = some (.ref f)) (hk : PySem.W.keepIn X.K (.ref f) = true) (hb : KwB X.K fd ps ks n g gV gD)
    (ha : MA X c W (a :: es) ra) (hkw : MK X c W kws rk) (hg : Gl X x := by rfl) (hall : (backToKw pos (keywordEach kws X.env)).all (·.1.isSome) = true := by rfl) (hks : (backToKw pos (keywordEach kws X.env)).filterMap (·.1) = ks := by rfl)
    (hdb : (x == ("__debug__" : Str)) = false := by decide) (he : starEach (a :: es) X.env = (false, eval a X.env) :: starEach es X.env := by rfl)
    (hpl : ((backTo pos (starEach (a :: es) X.env)).any (·.1) || (backToKw pos (keywordEach kws X.env)).any (·.1.isNone)) = false := by rfl) :
    ME X c W (.Call (.Name x p) (a :: es) kws pos) (eKw n ks.length ps.length gD rf ra rk) := fun sh => by
  constructor
  intro pins s σ H Q I ⟨φ, ρ, S, re, rs, o⟩
  apply wpAny_Call_Name_kw (ld_glob I hg hm ?_ hdb)
  apply PySem.W.callWith_KW (h₀ := X.base) I.ok.mod.kin hk hall (thn ((ha sh).run pos pins s σ H (fun vs H1 => (TAm c W rk) σ H1 fun zs H2 => vs.length = n ∧ zs.length = ks.length ∧ spEv c ps.length rf (gV vs zs) H2 Q (WE W σ)) I ?_) ?_) hpl he
  · refine ⟨φ, ρ, S, re, rs, Out.bind o fun xs S1 φ1 H1 vs e1 s1 r1 o1 => ?_⟩
    refine ⟨φ1, ρ, S1, re.ext rs e1, s1, Out.bind o1 fun ys S2 φ2 H2 zs e2 s2 r2 o2 => ?_⟩
    split at o2
    · rename_i hl
      have l1 : vs.length = n := by rw [← r1.length]; exact hl.1
      have l2 : zs.length = ks.length := by rw [← r2.length]; exact hl.2.1
      have r3 := hb.rep l1 l2 (RepL.ext s1.ls e2 _ _ r1) r2
      exact ⟨l1, l2, by rw [← r3.length]; exact hl.2.2, φ2, _, S2, r3, s2, o2⟩
    · exact o2.elim
  · rintro us s1 ⟨vs, H1, I1, r, q⟩
    apply thn ((hkw sh).run pos pins s1 σ H1 _ I1 q)
    rintro ws s2 ⟨zs, H2, I2, rz, l1, l2, q2⟩
    refine ⟨I2.kIn, ?_⟩
    rw [hks]
    exact run_kw F hr hb sh.tk I2 r rz l1 l2 q2
theorem me_callK0 {kws : List Keyword} {ks : List Str} {g : List Value → List Value → List Value} {gV : List V → List V → List V} {gD : List D → List D → List D}
    (F : FnOk X.prog X.w X.K X.mg X.base (L2.CX X.prog X.w) k f fd ps (spEv c ps.length rf)) (hr : Room k X.A) (hm : X.mg x = some (.ref f)) (hk : PySem.W.keepIn X.K (.ref f) = true) (hb : KwB X.K fd ps ks 0 g gV gD)
    (hkw : MK X c W kws rk) (hg : Gl X x := by rfl) (hall : (backToKw pos (keywordEach kws X.env)).all (·.1.isSome) = true := by rfl) (hks : (backToKw pos (keywordEach kws X.env)).filterMap (·.1) = ks := by rfl)
    (hdb : (x == ("__debug__" : Str)) = false := by decide)
    (hpl : ((backTo pos (starEach [] X.env)).any (·.1) || (backToKw pos (keywordEach kws X.env)).any (·.1.isNone)) = false := by rfl) :
    ME X c W (.Call (.Name x p) [] kws pos) (eKw 0 ks.length ps.length gD rf aNil rk) := fun sh => by
  constructor
  intro pins s σ H Q I ⟨φ, ρ, S, re, rs, o⟩
  apply wpAny_Call_Name_kw (ld_glob I hg hm ?_ hdb)
  apply PySem.W.callWith_KW0 (h₀ := X.base) I.ok.mod.kin hk hall ?_ hpl
  have o : Out c H φ (RepV c) ((rk ρ S).bind fun ks' S2 => if ([] : List D).length = 0 ∧ ks'.length = ks.length ∧ (gD [] ks').length = ps.length then rf (gD [] ks') S2 else .stuck) Q (fun cls d H' => W cls d σ H') := o
  apply thn ((hkw sh).run pos pins s σ H (fun zs H2 => zs.length = ks.length ∧ spEv c ps.length rf (gV [] zs) H2 Q (WE W σ)) I ?_) ?_
  · refine ⟨φ, ρ, S, re, rs, Out.bind o fun ys S2 φ2 H2 zs e2 s2 r2 o2 => ?_⟩
    split at o2
    · rename_i hl
      have l2 : zs.length = ks.length := by rw [← r2.length]; exact hl.2.1
      have r3 := hb.rep (c := c) (H := H2) (φ := φ2) (ds := []) (vs := []) rfl l2 .nil r2
      exact ⟨l2, by rw [← r3.length]; exact hl.2.2, φ2, _, S2, r3, s2, o2⟩
    · exact o2.elim
  · rintro ws s2 ⟨zs, H2, I2, rz, l2, q2⟩
    refine ⟨I2.kIn, ?_⟩
    rw [hks]
    exact run_kw (us := []) (vs := []) F hr hb sh.tk I2 .nil rz rfl l2 q2
end
/-- a def of the text keeps the promise of its evaluator -/
theorem begins_rep {c : Cz} {H : Hp} {φ : List Addr} {N : List Str} {ds : List D} {vs : List V} (r : RepL c H φ ds vs) : RepE c H φ (begins N.length ds) (L2.start N vs) := by
  have hl := r.length
  unfold begins L2.start
  refine ⟨by simp [hl], fun i d e => ?_⟩
  by_cases hi : i < ds.length
  · rw [List.getElem?_append_left (by simpa using hi), List.getElem?_map] at e
    cases q : ds[i]? with
    | none => rw [q] at e; cases e
    | some d' =>
      rw [q] at e
      cases e
      obtain ⟨v, h1, h2⟩ := r.get q
      refine ⟨v, ?_, h2⟩
      rw [List.getElem?_append_left (by simp; omega), List.getElem?_map, h1]
      rfl
  · rw [List.getElem?_append_right (by simp; omega), List.getElem?_replicate] at e
    split at e <;> cases e
theorem def_ok {P : Program} {w : World} {K : PySem.W.Frag} {mg : Str → Option Value} {base : Heap} {x qual : Str} {st : Stmt} {f : Addr} {fd : FuncData} {N ps : List Str} {k : Nat} {ev : Es} (c : Cz) (hcK : c.K = K) (hcm : c.mg = mg) (F : Fun K x qual st f fd) (S : FnScope N ps (defScope st))
    (hb : ∀ (cdv : Value) (A : Around) (outer : List PySem.Env) (s : Shared) (H : Hp) (E : XK), Room k (A.deeper (envOfC qual (defScope st) s.heap.objs.size f cdv)) →
      MSs (cxOf (L2.CX P w) P w K mg base N qual (defScope st) f cdv A outer s H E) c (fun cls d _ H => E cls d H) (defBody st) ev) : FnOk P w K mg base (L2.CX P w) (k + 1) f fd ps (spEv c ps.length (runDef N.length ev)) := by
  refine F.okX S (fun vs H Q E h => h.1) fun cdv A outer s H vs Q E hr h => ?_
  refine ⟨_, hb cdv A outer s H E hr ⟨hcK, hcm, takes_of rfl rfl rfl rfl, passes_of rfl, S.nd⟩, ?_⟩
  obtain ⟨_, φ, ds, S0, r, rs, o⟩ := h
  refine ⟨φ, begins N.length ds, S0, begins_rep r, rs, ?_⟩
  have o : Out c H φ (RepV c) (flowRes (ev (begins N.length ds) S0)) Q E := o
  revert o
  cases ev (begins N.length ds) S0 with
  | next ρ S => intro o φ' H' σ' e s r; exact o φ' H' .non e s (by unfold RepV; rfl)
  | brk ρ S => intro o; exact o.elim
  | cont ρ S => intro o; exact o.elim
  | ret d S => intro o φ' H' v e s r; exact o φ' H' v e s r
  | exc n ns ds ρ S => intro o φ' H' σ' cls dx vs e s r; exact o φ' H' cls dx vs e s
  | stuck => intro o; exact o.elim

/-! ### an own error, raised -/
/-- what __init__ of an error with the fields fs (in the order of its parameters) leaves -/
def spIni (C : Addr) (fs : List Str) : Sp := fun vs H Q _ => ∃ (a : Addr) (ws : List V), vs = .ref a :: ws ∧ ws.length = fs.length ∧ H a = some (exo a C none) ∧
  ∀ (d : Addr) (H' : Hp), H d = none → d ≠ a → H' a = some (exo a C (some d)) → H' d = some (exd d (fs.reverse.zip ws.reverse)) → (∀ b o, b ≠ a → H b = some o → H' b = some o) → Q .non H'
/-- an error's class -/
structure ErrC (X : Cx) (x : Str) (fs : List Str) (k : Nat) (fd : FuncData) (C fI : Addr) : Prop where
  ox : OexC X.K C
  mC : X.mg x = some (.ref C)
  iC : PySem.W.findIn X.K (.ref C) "__init__" = some (some (.ref fI))
  tI : PySem.W.typeIn X.K (.ref fI) = some (.type "function")
  ok : FnOk X.prog X.w X.K X.mg X.base CX0 k fI fd ("self" :: fs) (spIni C fs)
  bd : Binds X.K fd ("self" :: fs) []
def sRaise (x : Str) (fs : List Str) (ra : EvA) : Es := fun ρ S => ofRes (ra ρ S) ρ fun ds S1 => if ds.length = fs.length ∧ ds.length ≤ 1000 then .exc x fs.reverse ds.reverse ρ S1 else .stuck
theorem zip_fields : ∀ {fs : List Str} {ws : List V}, True → True := fun _ => trivial
section
variable {X : Cx} {c : Cz} {W : WX} {a b d : Expr} {ea eb ed : Ev} {pos : Pos} {es : List Expr} {ra : EvA} {x : Str} {p cp : Pos}
theorem ms_raise {fs : List Str} {k : Nat} {fd : FuncData} {C fI : Addr} (T : ErrC X x fs k fd C fI) (hr : Room (k + 1) X.A) (ha : MA X c W (a :: es) ra) (hg : Gl X x := by rfl) (hc : X.calm = true := by rfl)
    (hdb : (x == ("__debug__" : Str)) = false := by decide) (he : starEach (a :: es) X.env = (false, eval a X.env) :: starEach es X.env := by rfl) (hpl : (backTo cp (starEach es X.env)).any (·.1) = false := by rfl) :
    MS X c W (.Raise (some (.Call (.Name x p) (a :: es) [] cp)) none pos) (sRaise x fs ra) := fun s => by
  refine PS.imp (ps_raise hc s.tk (pmk_oex T.ox T.iC T.tI T.ok hr T.bd .nil pass0 hg T.mC (ha s) hdb he hpl)) fun D σ H ⟨φ, ρ, S, re, rs, o⟩ => ?_
  refine ⟨φ, ρ, S, re, rs, flow_out re rs o fun xs S1 φ1 H1 vs e1 s1 r1 re1 o1 => ?_⟩
  split at o1
  · rename_i hl
    have hl' : vs.length = fs.length := by rw [← r1.length]; exact hl.1
    refine ⟨by rw [← r1.length]; exact hl.2, fun a' ha' => ⟨a', vs, by rw [List.append_nil], hl', upd_same, fun d H' hd hda hx hdx kp => ⟨rfl, d, _, hx, hdx, ?_, ?_⟩⟩⟩
    · rw [← hd, upd_ne hda]
    · have hd1 : H1 d = none := by rw [← hd, upd_ne hda]
      have keep : ∀ b o, H1 b = some o → upd (del H' a') d (.xd (fs.reverse.zip vs.reverse)) b = some o := fun b o hb => by
        have nb : b ≠ a' := ne_of_none hb ha'
        rw [upd_ne (ne_of_none hb hd1), del_ne nb]
        exact kp b o nb (by rw [upd_ne nb]; exact hb)
      obtain ⟨s2, e2⟩ := s1.keep keep
      exact o1 φ1 _ σ _ d vs.reverse e2 s2 (re1.ext s1 e2) (by rw [s.mm]; exact T.mC) upd_same (by simp [hl']) (RepL.reverse (RepL.ext s1.ls e2 _ _ r1))
  · exact o1.elim

/-! ### an own error, caught -/
mutual
/-- no error in it -/
def noX : D → Bool
  | .tup ds => noXL ds
  | .wk ds => noXL ds
  | .frl ds => noXL ds
  | .err _ _ ds => noXL ds
  | .exn _ _ _ => false
  | _ => true
def noXL : List D → Bool
  | [] => true
  | d :: ds => noX d && noXL ds
end
mutual
theorem RepV.noX {c : Cz} {H : Hp} {φ : List Addr} (hc : c.xc = none) : ∀ (d : D) (v : V), RepV c H φ d v → noX d = true
  | .non, _, _ => by unfold MP.noX; rfl
  | .bl _, _, _ => by unfold MP.noX; rfl
  | .int _, _, _ => by unfold MP.noX; rfl
  | .str _, _, _ => by unfold MP.noX; rfl
  | .tup ds, _, h => by
    unfold RepV at h
    obtain ⟨a, xs, _, _, e3⟩ := h
    unfold MP.noX
    exact RepL.noX hc ds xs e3
  | .wk ds, _, h => by
    unfold RepV at h
    obtain ⟨a, xs, _, _, e3⟩ := h
    unfold MP.noX
    exact RepL.noX hc ds xs e3
  | .lst _, _, _ => by unfold MP.noX; rfl
  | .dct _, _, _ => by unfold MP.noX; rfl
  | .dtt _, _, _ => by unfold MP.noX; rfl
  | .err n ns ds, _, h => by
    unfold RepV at h
    obtain ⟨a, C, d, vs, _, _, _, _, _, e6⟩ := h
    unfold MP.noX
    exact RepL.noX hc ds vs e6
  | .frl ds, _, h => by
    unfold RepV at h
    obtain ⟨a, xs, _, _, e3⟩ := h
    unfold MP.noX
    exact RepL.noX hc ds xs e3
  | .exn n ns ds, _, h => by
    unfold RepV at h
    obtain ⟨a, cls, d, vs, _, e2, _⟩ := h
    rw [hc] at e2
    cases e2
theorem RepL.noX {c : Cz} {H : Hp} {φ : List Addr} (hc : c.xc = none) : ∀ (ds : List D) (vs : List V), RepL c H φ ds vs → noXL ds = true
  | [], _, _ => by unfold noXL; rfl
  | d :: ds, _, h => by
    unfold RepL at h
    obtain ⟨v, vr, _, e2, e3⟩ := h
    unfold noXL
    rw [RepV.noX hc d v e2, RepL.noX hc ds vr e3]
    rfl
end
mutual
theorem RepV.swap {c c' : Cz} {H : Hp} {φ : List Addr} (hk : c'.K = c.K) (hm : c'.mg = c.mg) : ∀ (d : D) (v : V), MP.noX d = true → RepV c H φ d v → RepV c' H φ d v
  | .non, _, _, h => by unfold RepV at h ⊢; exact h
  | .bl _, _, _, h => by unfold RepV at h ⊢; exact h
  | .int _, _, _, h => by unfold RepV at h ⊢; exact h
  | .str _, _, _, h => by unfold RepV at h ⊢; exact h
  | .tup ds, _, n, h => by
    unfold RepV at h ⊢
    unfold MP.noX at n
    obtain ⟨a, xs, e1, e2, e3⟩ := h
    exact ⟨a, xs, e1, by rw [hk]; exact e2, RepL.swap hk hm ds xs n e3⟩
  | .wk ds, _, n, h => by
    unfold RepV at h ⊢
    unfold MP.noX at n
    obtain ⟨a, xs, e1, e2, e3⟩ := h
    exact ⟨a, xs, e1, by rw [hk]; exact e2, RepL.swap hk hm ds xs n e3⟩
  | .lst _, _, _, h => by unfold RepV at h ⊢; exact h
  | .dct _, _, _, h => by unfold RepV at h ⊢; exact h
  | .dtt _, _, _, h => by unfold RepV at h ⊢; exact h
  | .err n' ns ds, _, n, h => by
    unfold RepV at h ⊢
    unfold MP.noX at n
    obtain ⟨a, C, d, vs, e1, e2, e3, e4, e5, e6⟩ := h
    exact ⟨a, C, d, vs, e1, by rw [hm]; exact e2, e3, e4, e5, RepL.swap hk hm ds vs n e6⟩
  | .frl ds, _, n, h => by
    unfold RepV at h ⊢
    unfold MP.noX at n
    obtain ⟨a, xs, e1, e2, e3⟩ := h
    exact ⟨a, xs, e1, by rw [hk]; exact e2, RepL.swap hk hm ds xs n e3⟩
  | .exn n ns ds, _, n', h => by
    unfold MP.noX at n'
    cases n'
theorem RepL.swap {c c' : Cz} {H : Hp} {φ : List Addr} (hk : c'.K = c.K) (hm : c'.mg = c.mg) : ∀ (ds : List D) (vs : List V), noXL ds = true → RepL c H φ ds vs → RepL c' H φ ds vs
  | [], _, _, h => by unfold RepL at h ⊢; exact h
  | d :: ds, _, n, h => by
    unfold RepL at h ⊢
    unfold noXL at n
    rw [Bool.and_eq_true] at n
    obtain ⟨v, vr, e1, e2, e3⟩ := h
    exact ⟨v, vr, e1, RepV.swap hk hm d v n.1 e2, RepL.swap hk hm ds vr n.2 e3⟩
end
theorem ents_len {κ : Type} {f : κ → D} {ks ks' : List κ} {ds ds' : List D} (h : ks.length = ds.length) (h' : ks'.length = ds'.length) (e : ents f ks ds = ents f ks' ds') : ds = ds' := by
  induction ks generalizing ds ks' ds' with
  | nil =>
    cases ds with
    | cons _ _ => simp at h
    | nil =>
      cases ks' with
      | nil => cases ds' with
        | nil => rfl
        | cons _ _ => simp at h'
      | cons k ks' => cases ds' with
        | nil => simp at h'
        | cons d ds' => simp [ents] at e
  | cons k ks ih =>
    cases ds with
    | nil => simp at h
    | cons d ds =>
      cases ks' with
      | nil => cases ds' with
        | nil => simp [ents] at e
        | cons _ _ => simp at h'
      | cons k' ks' => cases ds' with
        | nil => simp at h'
        | cons d' ds' =>
          simp only [ents, List.zipWith_cons_cons, List.cons.injEq, D.tup.injEq] at e
          rw [e.1.2.1, ih (by simpa using h) (by simpa using h') e.2]
theorem ents_ne {κ κ' : Type} {f : κ → D} {g : κ' → D} {ks : List κ} {ks' : List κ'} (ds es : List D) : ents f ks ds ≠ lkd (ents g ks' es) := fun h => by
  cases ks with
  | nil => simp [ents, lkd] at h
  | cons k ks => cases ds with
    | nil => simp [ents, lkd] at h
    | cons d ds => simp [ents, lkd] at h
theorem Cell.swap {c c' : Cz} {H H0 : Hp} {φ φ0 : List Addr} {xs : List D} {a b : Addr} (hk : c'.K = c.K) (hm : c'.mg = c.mg) (h0 : c'.xc = none) (r0 : Cell c' H0 φ0 xs b) (e : kindO (H0 b) = kindO (H a)) (r : Cell c H φ xs a) : Cell c' H φ xs a := by
  rcases r with ⟨vs, h2, h3⟩ | ⟨kvs, ds, h2, h3, h4⟩ | ⟨kvs, ds, h2, h3, h4⟩ | ⟨q, kvs, ds, h2, h3, h4⟩ <;> rcases r0 with ⟨us, g2, g3⟩ | ⟨lvs, es, g2, g3, g4⟩ | ⟨lvs, es, g2, g3, g4⟩ | ⟨q0, lvs, es, g2, g3, g4⟩ <;> rw [h2, g2] at e <;> first
    | (cases e; done)
    | skip
  · exact .inl ⟨vs, h2, RepL.swap hk hm _ _ (RepL.noX h0 _ _ g3) h3⟩
  · refine .inr (.inl ⟨kvs, ds, h2, h3, RepL.swap hk hm _ _ ?_ h4⟩)
    have := ents_len (by rw [h4.length, List.length_map, List.length_map]) (by rw [g4.length, List.length_map, List.length_map]) (h3.symm.trans g3)
    rw [this]
    exact RepL.noX h0 _ _ g4
  · exact absurd (h3.symm.trans g3) (ents_ne _ _)
  rotate_left 1
  · exact absurd (g3.symm.trans h3) (ents_ne _ _)
  · refine .inr (.inr (.inr ⟨q, kvs, ds, h2, h3, RepL.swap hk hm _ _ ?_ h4⟩))
    have := ents_len (by rw [h4.length, List.length_map, List.length_map]) (by rw [g4.length, List.length_map, List.length_map]) (List.cons.inj (h3.symm.trans g3)).2
    rw [this]
    exact RepL.noX h0 _ _ g4
  · refine .inr (.inr (.inl ⟨kvs, ds, h2, h3, RepL.swap hk hm _ _ ?_ h4⟩))
    have := ents_len (by rw [h4.length, List.length_map, List.length_map]) (by rw [g4.length, List.length_map, List.length_map]) (h3.symm.trans g3)
    rw [this]
    exact RepL.noX h0 _ _ g4
theorem RepS.swap {c c' : Cz} {H H0 : Hp} {φ φ0 : List Addr} {S : Sto} (hk : c'.K = c.K) (hm : c'.mg = c.mg) (h0 : c'.xc = none) (r0 : RepS c' H0 φ0 S) (e : Ext H0 φ0 H φ) (r : RepS c H φ S) : RepS c' H φ S := by
  refine ⟨r.nd, r.len, fun l xs h => ?_⟩
  obtain ⟨a, h1, h2⟩ := r.cell l xs h
  obtain ⟨b, g1, g2⟩ := r0.cell l xs h
  have q := pre_get e.pre g1
  rw [h1] at q
  cases q
  exact ⟨a, h1, Cell.swap hk hm h0 g2 (e.kind a (List.mem_of_getElem? g1)).symm h2⟩
theorem RepS.hot {c c' : Cz} {H : Hp} {φ : List Addr} {S : Sto} (hk : c'.K = c.K) (hm : c'.mg = c.mg) (h0 : c.xc = none) (r : RepS c H φ S) : RepS c' H φ S := by
  refine ⟨r.nd, r.len, fun l xs h => ?_⟩
  obtain ⟨a, h1, h2⟩ := r.cell l xs h
  refine ⟨a, h1, ?_⟩
  rcases h2 with ⟨vs, h2, h3⟩ | ⟨kvs, ds, h2, h3, h4⟩ | ⟨kvs, ds, h2, h3, h4⟩ | ⟨q0, kvs, ds, h2, h3, h4⟩
  · exact .inl ⟨vs, h2, RepL.swap hk hm _ _ (RepL.noX h0 _ _ h3) h3⟩
  · exact .inr (.inl ⟨kvs, ds, h2, h3, RepL.swap hk hm _ _ (RepL.noX h0 _ _ h4) h4⟩)
  · exact .inr (.inr (.inl ⟨kvs, ds, h2, h3, RepL.swap hk hm _ _ (RepL.noX h0 _ _ h4) h4⟩))
  · exact .inr (.inr (.inr ⟨q0, kvs, ds, h2, h3, RepL.swap hk hm _ _ (RepL.noX h0 _ _ h4) h4⟩))
theorem RepE.hot {c c' : Cz} {H : Hp} {φ : List Addr} {ρ : Env} {σ : St} (hk : c'.K = c.K) (hm : c'.mg = c.mg) (h0 : c.xc = none) (r : RepE c H φ ρ σ) : RepE c' H φ ρ σ :=
  ⟨r.1, fun i d e => by
    obtain ⟨v, h1, h2⟩ := r.2 i d e
    exact ⟨v, h1, RepV.swap hk hm _ _ (RepV.noX h0 _ _ h2) h2⟩⟩

open Classical in
noncomputable def keepIf (p : Prop) (f : Flow) : Flow := if p then f else .stuck
theorem keepIf_out {c : Cz} {W : WX} {H : Hp} {φ : List Addr} {p : Prop} {f : Flow} {D : Ends} (o : OutF c W H φ (keepIf p f) D) : p ∧ OutF c W H φ f D := by
  unfold keepIf at o
  by_cases h : p
  · rw [if_pos h] at o
    exact ⟨h, o⟩
  · rw [if_neg h] at o
    exact o.elim
theorem keepIf_pos {p : Prop} {f : Flow} (h : p) : keepIf p f = f := by unfold keepIf; rw [if_pos h]
noncomputable def suiteEnd (S : Sto) : Flow → Flow
  | .ret d S' => keepIf (noX d = true ∧ S' = S) (.ret d S')
  | .next ρ S' => keepIf ((∀ d, some d ∈ ρ → noX d = true) ∧ S' = S) (.next ρ S')
  | .brk ρ S' => keepIf ((∀ d, some d ∈ ρ → noX d = true) ∧ S' = S) (.brk ρ S')
  | .cont ρ S' => keepIf ((∀ d, some d ∈ ρ → noX d = true) ∧ S' = S) (.cont ρ S')
  | .exc .. => .stuck
  | .stuck => .stuck
def unset (i : Nat) : Flow → Flow
  | .next ρ S => .next (ρ.set i none) S
  | .brk ρ S => .brk (ρ.set i none) S
  | .cont ρ S => .cont (ρ.set i none) S
  | f => f
noncomputable def sTryAs (i : Nat) (dec : Str → Option Bool) (body suite : Es) : Es := fun ρ S => match body ρ S with
  | .exc n ns ds ρ' S' => match dec n with
    | some true => suiteEnd S' (unset i (suite (ρ'.set i (some (.exn n ns ds))) S'))
    | some false => .exc n ns ds ρ' S'
    | none => .stuck
  | f => f
noncomputable def sTry (dec : Str → Option Bool) (body suite : Es) : Es := fun ρ S => match body ρ S with
  | .exc n ns ds ρ' S' => match dec n with
    | some true => suiteEnd S' (suite ρ' S')
    | some false => .exc n ns ds ρ' S'
    | none => .stuck
  | f => f
def Cz.hot (c : Cz) (a : Addr) (cls : Value) (d : Addr) : Cz := ⟨c.K, c.mg, some (a, cls, d)⟩
def tsm (c : Cz) (ev : Es) (a : Addr) (cls : Value) (d : Option Addr) : TS := match d with
  | some dx => TSm (c.hot a cls dx) W0 ev
  | none => fun _ _ _ => False
/-- back out of the suite -/
theorem suite_back {c c' : Cz} {H : Hp} {φ : List Addr} {S : Sto} {f : Flow} {D : Ends} (hk : c.K = c'.K) (hm : c.mg = c'.mg) (h0 : c.xc = none) (r0 : RepS c H φ S) (o : OutF c W H φ (suiteEnd S f) D) : OutF c' W0 H φ f D := by
  have env : ∀ {H' : Hp} {φ' : List Addr} {ρ : Env} {σ : St}, (∀ d, some d ∈ ρ → noX d = true) → RepE c' H' φ' ρ σ → RepE c H' φ' ρ σ := fun {H' φ' ρ σ} n r =>
    ⟨r.1, fun i d e => by
      obtain ⟨v, h1, h2⟩ := r.2 i d e
      exact ⟨v, h1, RepV.swap hk hm _ _ (n d (List.mem_of_getElem? e)) h2⟩⟩
  cases f with
  | ret d S' =>
    obtain ⟨⟨h1, es⟩, o2⟩ := keepIf_out o
    subst es
    intro φ' H' v e s r
    exact o2 φ' H' v e (RepS.swap hk hm h0 r0 e s) (RepV.swap hk hm _ _ h1 r)
  | next ρ S' =>
    obtain ⟨⟨h1, es⟩, o2⟩ := keepIf_out o
    subst es
    intro φ' H' σ' e s r
    exact o2 φ' H' σ' e (RepS.swap hk hm h0 r0 e s) (env h1 r)
  | brk ρ S' =>
    obtain ⟨⟨h1, es⟩, o2⟩ := keepIf_out o
    subst es
    intro φ' H' σ' e s r
    exact o2 φ' H' σ' e (RepS.swap hk hm h0 r0 e s) (env h1 r)
  | cont ρ S' =>
    obtain ⟨⟨h1, es⟩, o2⟩ := keepIf_out o
    subst es
    intro φ' H' σ' e s r
    exact o2 φ' H' σ' e (RepS.swap hk hm h0 r0 e s) (env h1 r)
  | exc n ns ds ρ S' => exact o.elim
  | stuck => exact o.elim
theorem unset_out {c : Cz} {H : Hp} {φ : List Addr} {i : Nat} {f : Flow} {D : Ends} (o : OutF c W0 H φ (unset i f) D) : OutF c W0 H φ f { nx := fun σ' H' => D.nx (σ'.set i none) H', rt := D.rt, bk := fun σ' H' => D.bk (σ'.set i none) H', ct := fun σ' H' => D.ct (σ'.set i none) H' } := by
  cases f with
  | next ρ S => intro φ' H' σ' e s r; exact o φ' H' _ e s r.unset
  | brk ρ S => intro φ' H' σ' e s r; exact o φ' H' _ e s r.unset
  | cont ρ S => intro φ' H' σ' e s r; exact o φ' H' _ e s r.unset
  | ret d S => exact o
  | exc n ns ds ρ S => exact o
  | stuck => exact o
theorem ms_tryAs (i : Nat) {n ex : Str} {cv : Value} {dec : Str → Option Bool} {body suite : List Stmt} {b0 : Stmt} {np hp : Pos} {eb' es' : Es} (h0 : c.xc = none) (hdec : ∀ m b cls, dec m = some b → X.mg m = some cls → PySem.W.exmOne X.K cls cv = some b)
    (hn : Names X ex cv) (hb : ∀ (W : WX) (pn : List (Addr × Obj)) (xe : Value → Shared → Prop), Takes (X.tr pn xe) W → PassesOwn (model X.prog X.w) X.A X.env xe → MSs (X.tr pn xe) c W body eb')
    (hsu : ∀ (a : Addr) (oe : Obj) (cls : Value) (d : Addr) (pn : List (Addr × Obj)), Zc cls (some d) oe → (∃ vs, oe.data = .fields vs) → MSs (X.suite a ((a, oe) :: pn)) (c.hot a cls d) W0 (b0 :: suite) es')
    (hi : X.N[i]? = some n := by rfl) (hln : X.env.kindOf n = some .local := by rfl) (hs : X.stack = X.env :: X.outer := by rfl) (hf : X.env.frame = some X.env.locals := by rfl) :
    MS X c W (.Try body [.ExceptHandler (some (.Name ex np)) (some n) (b0 :: suite) hp] [] [] pos) (sTryAs i dec eb' es') := fun s => by
  refine PS.imp (ps_try_as (tb := fun W => TSm c W eb') (ts := fun a cls d => tsm c es' a cls d) hs hf s.nd hi hln hn s.tk (fun W pn xe tk ow => hb W pn xe tk ow ⟨s.kk, s.mm, tk, ow, s.nd⟩) (fun a oe cls d pn hz hf => ?_)) fun D σ H ⟨φ, ρ, S, re, rs, o⟩ => ?_
  · cases d with
    | none => exact ⟨fun _ _ _ _ _ _ h => h.elim⟩
    | some d => exact hsu a oe cls d pn hz hf ⟨s.kk, s.mm, takes0, PassesOwn.never, s.nd⟩
  · refine ⟨φ, ρ, S, re, rs, ?_⟩
    unfold sTryAs at o
    revert o
    cases eb' ρ S with
    | exc m ns ds ρ' S' =>
      intro o φ' H' σ' cls dx vs e s1 r1 hm hd hl rl
      cases hq : dec m with
      | none => simp only [hq] at o; exact o.elim
      | some bb =>
        simp only [hq] at o
        refine ⟨bb, hdec m bb cls hq (by rw [← s.mm]; exact hm), fun hbt a' ha' => ?_, fun hbf => ?_⟩
        · subst hbt
          have hotK : (c.hot a' cls dx).K = c.K := rfl
          refine ⟨φ', ρ'.set i (some (.exn m ns ds)), S', ?_, RepS.hot hotK rfl h0 s1, ?_⟩
          · refine (RepE.hot hotK rfl h0 r1).set ?_
            unfold RepV
            exact ⟨a', cls, dx, vs, rfl, rfl, hm, hd, hl, RepL.swap hotK rfl _ _ (RepL.noX h0 _ _ rl) rl⟩
          · exact unset_out (suite_back (c := c) (W := W) rfl rfl h0 s1 (OutF.later o e))
        · subst hbf
          exact o φ' H' σ' cls dx vs e s1 r1 hm hd hl rl
    | next ρ' S' => intro o; exact o
    | brk ρ' S' => intro o; exact o
    | cont ρ' S' => intro o; exact o
    | ret d S' => intro o; exact o
    | stuck => intro o; exact o
theorem ms_try {ex : Str} {cv : Value} {dec : Str → Option Bool} {body suite : List Stmt} {b0 : Stmt} {np hp : Pos} {eb' es' : Es} (h0 : c.xc = none) (hdec : ∀ m b cls, dec m = some b → X.mg m = some cls → PySem.W.exmOne X.K cls cv = some b)
    (hn : Names X ex cv) (hb : ∀ (W : WX) (pn : List (Addr × Obj)) (xe : Value → Shared → Prop), Takes (X.tr pn xe) W → PassesOwn (model X.prog X.w) X.A X.env xe → MSs (X.tr pn xe) c W body eb')
    (hsu : ∀ (a : Addr) (oe : Obj) (cls : Value) (d : Addr) (pn : List (Addr × Obj)), Zc cls (some d) oe → (∃ vs, oe.data = .fields vs) → MSs (X.suite a ((a, oe) :: pn)) (c.hot a cls d) W0 (b0 :: suite) es')
    (hs : X.stack = X.env :: X.outer := by rfl) (hf : X.env.frame = some X.env.locals := by rfl) :
    MS X c W (.Try body [.ExceptHandler (some (.Name ex np)) none (b0 :: suite) hp] [] [] pos) (sTry dec eb' es') := fun s => by
  refine PS.imp (ps_try_only (tb := fun W => TSm c W eb') (ts := fun a cls d => tsm c es' a cls d) hs hf hn s.tk (fun W pn xe tk ow => hb W pn xe tk ow ⟨s.kk, s.mm, tk, ow, s.nd⟩) (fun a oe cls d pn hz hf => ?_)) fun D σ H ⟨φ, ρ, S, re, rs, o⟩ => ?_
  · cases d with
    | none => exact ⟨fun _ _ _ _ _ _ h => h.elim⟩
    | some d => exact hsu a oe cls d pn hz hf ⟨s.kk, s.mm, takes0, PassesOwn.never, s.nd⟩
  · refine ⟨φ, ρ, S, re, rs, ?_⟩
    unfold sTry at o
    revert o
    cases eb' ρ S with
    | exc m ns ds ρ' S' =>
      intro o φ' H' σ' cls dx vs e s1 r1 hm hd hl rl
      cases hq : dec m with
      | none => simp only [hq] at o; exact o.elim
      | some bb =>
        simp only [hq] at o
        refine ⟨bb, hdec m bb cls hq (by rw [← s.mm]; exact hm), fun hbt a' ha' => ?_, fun hbf => ?_⟩
        · subst hbt
          have hotK : (c.hot a' cls dx).K = c.K := rfl
          exact ⟨φ', ρ', S', RepE.hot hotK rfl h0 r1, RepS.hot hotK rfl h0 s1, suite_back (c := c) (W := W) rfl rfl h0 s1 (OutF.later o e)⟩
        · subst hbf
          exact o φ' H' σ' cls dx vs e s1 r1 hm hd hl rl
    | next ρ' S' => intro o; exact o
    | brk ρ' S' => intro o; exact o
    | cont ρ' S' => intro o; exact o
    | ret d S' => intro o; exact o
    | stuck => intro o; exact o
end
end MP
end
section
set_option Elab.async false
set_option linter.all false
set_option maxRecDepth 100000
set_option maxHeartbeats 4000000
/-! MP5: operations on data. -/
namespace MP
open PySem PySem.Spec PyProof.Rows L2

section
variable {X : Cx} {c : Cz} {W : WX} {a b d : Expr} {ea eb ed : Ev} {pos : Pos} {es : List Expr} {ra : EvA} {x : Str} {p : Pos}
abbrev Op2 := D → D → Sto → Option (D × Sto)
/-- the most that a list made by + or * may hold here -/
def most : Nat := 1000000
theorem most_le {n : Nat} (h : n ≤ most) : n ≤ sizeLine := Nat.le_trans h (by decide)
theorem most_lt {n : Nat} (h : n < most) : n < sizeLine := Nat.lt_of_lt_of_le h (by decide)

theorem OpR.imp {f : Value → Value → Sem Value} {r r' : R2} (h : OpR X f r) (k : ∀ x y H Q, r' x y H Q → r x y H Q) : OpR X f r' := fun pins s σ H x y v u Q I rx ry q => h pins s σ H x y v u Q I rx ry (k _ _ _ _ q)
theorem OpR.or {f : Value → Value → Sem Value} {r r' : R2} (h : OpR X f r) (h' : OpR X f r') : OpR X f (fun x y H Q => r x y H Q ∨ r' x y H Q) := fun pins s σ H x y v u Q I rx ry q => by
  rcases q with q | q
  · exact h pins s σ H x y v u Q I rx ry q
  · exact h' pins s σ H x y v u Q I rx ry q
/-! ints -/
def dI (C : Int → Int → Prop) [∀ i j, Decidable (C i j)] (g : Int → Int → D) : Op2 := fun d e S => match d, e with
  | .int i, .int j => if C i j then some (g i j, S) else none
  | _, _ => none
def dI0 (g : Int → Int → D) : Op2 := fun d e S => match d, e with
  | .int i, .int j => some (g i j, S)
  | _, _ => none
theorem opd_I {f : Value → Value → Sem Value} {C : Int → Int → Prop} [∀ i j, Decidable (C i j)] {g : Int → Int → V} {gD : Int → Int → D} (h : OpR X f (rI C g)) (hg : ∀ i j c H φ, RepV c H φ (gD i j) (g i j)) : OpD X c f (dI C gD) := fun _ => by
  refine OpR.imp h fun x y H Q ⟨φ, S, d, e, rs, r1, r2, o⟩ => ?_
  cases d <;> cases e <;> first
    | exact False.elim o
    | skip
  rename_i i j
  unfold RepV at r1 r2
  unfold dI at o
  by_cases hc : C i j
  · simp only [if_pos hc] at o
    exact ⟨i, j, r1, r2, hc, o φ H _ (.refl _ _) rs (hg i j c H φ)⟩
  · simp only [if_neg hc] at o
    exact o.elim
theorem opd_I0 {f : Value → Value → Sem Value} {g : Int → Int → V} {gD : Int → Int → D} (h : OpR X f (rI0 g)) (hg : ∀ i j c H φ, RepV c H φ (gD i j) (g i j)) : OpD X c f (dI0 gD) := fun _ => by
  refine OpR.imp h fun x y H Q ⟨φ, S, d, e, rs, r1, r2, o⟩ => ?_
  cases d <;> cases e <;> first
    | exact False.elim o
    | skip
  rename_i i j
  unfold RepV at r1 r2
  exact ⟨i, j, r1, r2, o φ H _ (.refl _ _) rs (hg i j c H φ)⟩
theorem rep_int {i : Int} {H : Hp} {φ : List Addr} : RepV c H φ (.int i) (.int i) := by unfold RepV; rfl
theorem rep_bl {i : Bool} {H : Hp} {φ : List Addr} : RepV c H φ (.bl i) (.bl i) := by unfold RepV; rfl
theorem rep_str {i : Str} {H : Hp} {φ : List Addr} : RepV c H φ (.str i) (.str i) := by unfold RepV; rfl
theorem rep_non {H : Hp} {φ : List Addr} : RepV c H φ .non .non := by unfold RepV; rfl
def dSub : Op2 := dI0 fun i j => .int (i - j)
theorem od_sub : OpD X c (binaryOp .Sub) dSub := opd_I0 op_sub fun _ _ _ _ _ => rep_int
def CDivA (i j : Int) : Prop := j ≠ 0 ∧ j.natAbs.log2 < 9000
noncomputable instance (i j : Int) : Decidable (CDivA i j) := Classical.propDecidable _
theorem op_fdivA : OpR X (binaryOp .FloorDiv) (rI CDivA fun i j => .int (i.fdiv j)) := opI fun i j _ _ _ _ _ hc q => floordiv_int hc.1 q (.inl (PyProof.noPylong_of_log2 hc.2))
noncomputable def dDiv : Op2 := dI CDivA fun i j => .int (i.fdiv j)
theorem od_div : OpD X c (binaryOp .FloorDiv) dDiv := opd_I op_fdivA fun _ _ _ _ _ => rep_int
def CModA (i j : Int) : Prop := j ≠ 0
instance (i j : Int) : Decidable (CModA i j) := by unfold CModA; exact inferInstance
def dMod : Op2 := dI CModA fun i j => .int (i.fmod j)
theorem od_mod : OpD X c (binaryOp .Mod) dMod := opd_I (C := CModA) op_modN fun _ _ _ _ _ => rep_int
instance (i j : Int) : Decidable (CPow i j) := by unfold CPow; exact inferInstance
def dPow : Op2 := dI CPow fun i j => .int (i ^ j.toNat)
theorem od_pow : OpD X c (binaryOp .Pow) dPow := opd_I op_pow fun _ _ _ _ _ => rep_int
def dLt : Op2 := dI0 fun i j => .bl (decide (i < j))
def dLe : Op2 := dI0 fun i j => .bl (decide (i ≤ j))
def dGt : Op2 := dI0 fun i j => .bl (decide (j < i))
def dGe : Op2 := dI0 fun i j => .bl (decide (j ≤ i))
theorem od_lt : OpD X c (compareOp .Lt) dLt := opd_I0 op_lt fun _ _ _ _ _ => rep_bl
theorem od_le : OpD X c (compareOp .LtE) dLe := opd_I0 op_le fun _ _ _ _ _ => rep_bl
theorem od_gt : OpD X c (compareOp .Gt) dGt := opd_I0 op_gt fun _ _ _ _ _ => rep_bl
theorem od_ge : OpD X c (compareOp .GtE) dGe := opd_I0 op_ge fun _ _ _ _ _ => rep_bl
def dNeg : D → Sto → Option (D × Sto) := fun d S => match d with
  | .int i => some (.int (-i), S)
  | _ => none
theorem ud_neg : UnD X c (unaryOp .USub) dNeg := fun _ => by
  intro pins s σ H x v Q I rx ⟨φ, S, d, rs, r, o⟩
  cases d <;> first
    | exact False.elim o
    | skip
  rename_i i
  unfold RepV at r
  exact un_neg pins s σ H x v Q I rx ⟨i, r, o φ H _ (.refl _ _) rs rep_int⟩
/-! + and *, by kinds -/
def dAdd : Op2 := fun d e S => match d, e with
  | .int i, .int j => some (.int (i + j), S)
  | .lst l, .lst m => match S[l]?, S[m]? with
    | some xs, some ys => if xs.length + ys.length ≤ most then some (.lst S.length, S ++ [xs ++ ys]) else none
    | _, _ => none
  | .tup xs, .tup ys => if xs.length + ys.length ≤ most then some (.tup (xs ++ ys), S) else none
  | .str x, .str y => if x.length + y.length ≤ most then some (.str (x ++ y), S) else none
  | _, _ => none
theorem new_list {φ : List Addr} {H : Hp} {S : Sto} {Q : VK} {xs : List D} {vs : List V} (rs : RepS c H φ S) (r : RepL c H φ xs vs) (o : OutO c H φ (RepV c) (some (D.lst S.length, S ++ [xs])) Q) : ∀ p, H p = none → Q (.ref p) (upd H p (.lst vs)) := fun p hp => by
  obtain ⟨s2, e2⟩ := rs.push hp r
  refine o _ _ _ e2 s2 ?_
  unfold RepV
  refine ⟨p, rfl, ?_, by rw [upd_same]; rfl⟩
  rw [← rs.len, List.getElem?_append_right (Nat.le_refl _)]
  simp
theorem new_tup {φ : List Addr} {H : Hp} {S : Sto} {Q : VK} {xs : List D} {vs : List V} (rs : RepS c H φ S) (r : RepL c H φ xs vs) (o : OutO c H φ (RepV c) (some (D.tup xs, S)) Q) : NewT Q H vs := fun p ob hp hn => by
  obtain ⟨s2, e2⟩ := rs.keep (H' := upd H p (.frz ob (.tup vs))) (upd_keep hp)
  refine o _ _ _ e2 s2 ?_
  unfold RepV
  exact ⟨p, vs, rfl, .inl ⟨ob, hn, upd_same⟩, RepL.ext rs.ls e2 _ _ r⟩
theorem old_tup {φ : List Addr} {H : Hp} {S : Sto} {Q : VK} {xs : List D} {vs : List V} {q : Addr} (rs : RepS c H φ S) (h : SqN c.K H q vs) (r : RepL c H φ xs vs) (o : OutO c H φ (RepV c) (some (D.tup xs, S)) Q) : Q (.ref q) H := by
  refine o φ H _ (.refl _ _) rs ?_
  unfold RepV
  exact ⟨q, vs, rfl, h, r⟩
theorem od_add : OpD X c (binaryOp .Add) dAdd := fun kk => by
  refine OpR.imp (OpR.or op_add (OpR.or op_cat (OpR.or op_catN op_add_str))) fun x y H Q ⟨φ, S, d, e, rs, r1, r2, o⟩ => ?_
  cases d <;> cases e <;> first
    | exact False.elim o
    | skip
  · rename_i i j
    unfold RepV at r1 r2
    exact .inl ⟨i, j, r1, r2, o φ H _ (.refl _ _) rs rep_int⟩
  · rename_i i j
    unfold RepV at r1 r2
    unfold dAdd at o
    by_cases hz : i.length + j.length ≤ most
    · simp only [if_pos hz] at o
      exact .inr (.inr (.inr ⟨i, j, r1, r2, most_le hz, o φ H _ (.refl _ _) rs rep_str⟩))
    · simp only [if_neg hz] at o
      exact o.elim
  · rename_i xs ys
    unfold RepV at r1 r2
    obtain ⟨a1, us, rfl, h1, k1⟩ := r1
    obtain ⟨a2, ws, rfl, h2, k2⟩ := r2
    unfold dAdd at o
    by_cases hz : xs.length + ys.length ≤ most
    · simp only [if_pos hz] at o
      have l1 := k1.length
      have l2 := k2.length
      refine .inr (.inr (.inl ⟨a1, a2, us, ws, rfl, rfl, by rw [← kk]; exact h1.sq, by rw [← kk]; exact h2.sq, by rw [← l1, ← l2]; exact most_le hz, fun eu => ?_, fun _ ew => ?_, fun _ _ => ?_⟩))
      · subst eu
        have : xs = [] := List.eq_nil_of_length_eq_zero (by simpa using l1)
        subst this
        exact old_tup rs h2 k2 o
      · subst ew
        have : ys = [] := List.eq_nil_of_length_eq_zero (by simpa using l2)
        subst this
        rw [List.append_nil] at o
        exact old_tup rs h1 k1 o
      · exact new_tup rs (k1.append k2) o
    · simp only [if_neg hz] at o
      exact o.elim
  · rename_i l m
    unfold RepV at r1 r2
    obtain ⟨a1, rfl, h1, kd1⟩ := r1
    obtain ⟨a2, rfl, h2, kd2⟩ := r2
    unfold dAdd at o
    cases q1 : S[l]? with
    | none => simp only [q1] at o; exact o.elim
    | some xs =>
      cases q2 : S[m]? with
      | none => simp only [q1, q2] at o; exact o.elim
      | some ys =>
        simp only [q1, q2] at o
        by_cases hz : xs.length + ys.length ≤ most
        · simp only [if_pos hz] at o
          obtain ⟨b1, us, g1, g2, g3⟩ := rs.at_ l xs q1 h1 kd1
          obtain ⟨b2, ws, g4, g5, g6⟩ := rs.at_ m ys q2 h2 kd2
          rw [h1] at g1
          rw [h2] at g4
          cases g1
          cases g4
          exact .inr (.inl ⟨a1, a2, us, ws, rfl, rfl, g2, g5, by rw [← g3.length, ← g6.length]; exact most_le hz, new_list rs (g3.append g6) o⟩)
        · simp only [if_neg hz] at o
          exact o.elim
/-- * of two factors of together less than a hundred million bits -/
def CMulA (i j : Int) : Prop := i.natAbs.log2 + j.natAbs.log2 < 100000000
theorem CMulA.ok {i j : Int} (h : CMulA i j) : IntMulOk i j := by
  have b : ∀ x : Int, Builtin.Int.intBits x ≤ x.natAbs.log2 + 1 := fun x => by
    unfold Builtin.Int.intBits
    split <;> omega
  have h1 := b i
  have h2 := b j
  have h3 : i.natAbs.log2 + j.natAbs.log2 < 100000000 := h
  have e : bitsLine = 134217728 := by decide
  unfold IntMulOk
  intro z
  rw [Bool.and_eq_true] at z
  have z2 := z.2
  unfold Builtin.Int.intTooBig at z2
  have z3 := of_decide_eq_true z2
  rw [e] at z3
  omega
theorem op_mulA {X : Cx} : OpR X (binaryOp .Mult) (rI CMulA fun i j => .int (i * j)) := opI fun _ _ _ _ _ _ _ hc q => mul_int q hc.ok
noncomputable instance (i j : Int) : Decidable (CMulA i j) := Classical.propDecidable _
noncomputable def dMul : Op2 := fun d e S => match d, e with
  | .int i, .int j => if CMulA i j then some (.int (i * j), S) else none
  | .lst l, .int k => match S[l]? with
    | some xs => if k < 1000000 ∧ -1000000 < k ∧ xs.length * k.toNat ≤ most then some (.lst S.length, S ++ [(List.replicate k.toNat xs).flatten]) else none
    | none => none
  | _, _ => none
theorem RepL.rep {H : Hp} {φ : List Addr} {ds : List D} {vs : List V} (r : RepL c H φ ds vs) : ∀ n : Nat, RepL c H φ (List.replicate n ds).flatten (List.replicate n vs).flatten
  | 0 => .nil
  | n + 1 => by
    rw [List.replicate_succ, List.replicate_succ, List.flatten_cons, List.flatten_cons]
    exact r.append (RepL.rep r n)
theorem od_mul : OpD X c (binaryOp .Mult) dMul := fun kk => by
  refine OpR.imp (OpR.or op_mulA op_rep) fun x y H Q ⟨φ, S, d, e, rs, r1, r2, o⟩ => ?_
  cases d <;> cases e <;> first
    | exact False.elim o
    | skip
  · rename_i i j
    unfold RepV at r1 r2
    unfold dMul at o
    by_cases hz : CMulA i j
    · simp only [if_pos hz] at o
      exact .inl ⟨i, j, r1, r2, hz, o φ H _ (.refl _ _) rs rep_int⟩
    · simp only [if_neg hz] at o
      exact o.elim
  · rename_i l k
    unfold RepV at r1 r2
    obtain ⟨a1, rfl, h1, kd1⟩ := r1
    unfold dMul at o
    cases q1 : S[l]? with
    | none => simp only [q1] at o; exact o.elim
    | some xs =>
      simp only [q1] at o
      by_cases hz : k < 1000000 ∧ -1000000 < k ∧ xs.length * k.toNat ≤ most
      · simp only [if_pos hz] at o
        obtain ⟨b1, us, g1, g2, g3⟩ := rs.at_ l xs q1 h1 kd1
        rw [h1] at g1
        cases g1
        exact .inr ⟨a1, k, us, rfl, r2, g2, by omega, by omega, by rw [← g3.length]; exact most_le hz.2.2, new_list rs (g3.rep _) o⟩
      · simp only [if_neg hz] at o
        exact o.elim
/-! == and != of data -/
def toPyL (f : D → Option PyData) : List D → Option (List PyData)
  | [] => some []
  | d :: ds => (f d).bind fun p => (toPyL f ds).map fun ps => p :: ps
def toPy (S : Sto) : Nat → D → Option PyData
  | 0, _ => none
  | n + 1, d => match d with
    | .non => some .none
    | .bl b => some (.bool b)
    | .int i => some (.int i)
    | .str x => if PyData.strOk x = true then some (.str x) else none
    | .tup ds => (toPyL (toPy S n) ds).map .tuple
    | .lst l => (S[l]?).bind fun ds => (toPyL (toPy S n) ds).map .list
    | .frl ds => (toPyL (toPy S n) ds).map .list
    | .exn .. => none
    | .wk .. => none
    | .dct _ => none
    | .dtt _ => none
    | .err .. => none
theorem depthAll_le {n : Nat} : ∀ {ps : List PyData}, (∀ p ∈ ps, p.depth ≤ n) → PyData.depthAll ps ≤ n
  | [], _ => by simp [PyData.depthAll]
  | p :: ps, h => by
    have h1 := h p (by simp)
    have h2 := depthAll_le (n := n) (ps := ps) fun q hq => h q (by simp [hq])
    simp only [PyData.depthAll]
    omega
theorem toPy_ok {H : Hp} {φ : List Addr} {S : Sto} (rs : RepS c H φ S) : ∀ (n : Nat) (d : D) (v : V) (pd : PyData), RepV c H φ d v → toPy S n d = some pd → Dp c.K H v pd ∧ pd.canLay0 = true ∧ pd.depth ≤ n
  | 0, d, v, pd, r, e => by cases e
  | n + 1, d, v, pd, r, e => by
    have all : ∀ (ds : List D) (vs : List V) (ps : List PyData), RepL c H φ ds vs → toPyL (toPy S n) ds = some ps → DpAll c.K H vs ps ∧ PyData.canLayAll0 ps = true ∧ ∀ p ∈ ps, p.depth ≤ n := by
      intro ds
      induction ds with
      | nil =>
        intro vs ps r e
        unfold RepL at r
        subst r
        cases e
        exact ⟨.nil, by simp [PyData.canLayAll0], by simp⟩
      | cons d ds ih =>
        intro vs ps r e
        unfold RepL at r
        obtain ⟨v, vr, rfl, r1, r2⟩ := r
        unfold toPyL at e
        cases q1 : toPy S n d with
        | none => rw [q1] at e; cases e
        | some p1 =>
          cases q2 : toPyL (toPy S n) ds with
          | none => rw [q1, q2] at e; cases e
          | some p2 =>
            rw [q1, q2] at e
            cases e
            obtain ⟨a1, a2, a3⟩ := toPy_ok rs n d v p1 r1 q1
            obtain ⟨b1, b2, b3⟩ := ih vr p2 r2 q2
            refine ⟨.cons a1 b1, by simp [PyData.canLayAll0, a2, b2], fun p hp => ?_⟩
            rcases List.mem_cons.mp hp with rfl | hp
            · exact a3
            · exact b3 p hp
    cases d with
    | non => cases e; unfold RepV at r; subst r; exact ⟨.non, by simp [PyData.canLay0], by simp [PyData.depth]⟩
    | bl b => cases e; unfold RepV at r; subst r; exact ⟨.bl b, by simp [PyData.canLay0], by simp [PyData.depth]⟩
    | int i => cases e; unfold RepV at r; subst r; exact ⟨.int i, by simp [PyData.canLay0], by simp [PyData.depth]⟩
    | str x =>
      unfold toPy at e
      by_cases hx : PyData.strOk x = true
      · simp only [if_pos hx] at e
        cases e
        unfold RepV at r
        subst r
        exact ⟨.str x, by simp [PyData.canLay0, hx], by simp [PyData.depth]⟩
      · simp only [if_neg hx] at e
        cases e
    | tup ds =>
      unfold toPy at e
      unfold RepV at r
      obtain ⟨a, us, rfl, h1, h2⟩ := r
      cases q : toPyL (toPy S n) ds with
      | none => simp only [q] at e; cases e
      | some ps =>
        simp only [q] at e
        cases e
        obtain ⟨b1, b2, b3⟩ := all ds us ps h2 q
        refine ⟨.tup h1.sq b1, by simp [PyData.canLay0, b2], ?_⟩
        have := depthAll_le b3
        simp only [PyData.depth]
        omega
    | lst l =>
      unfold toPy at e
      unfold RepV at r
      obtain ⟨a, rfl, h1, kd1⟩ := r
      cases q0 : S[l]? with
      | none => simp only [q0] at e; cases e
      | some ds =>
        obtain ⟨a', us, g1, g2, g3⟩ := rs.at_ l ds q0 h1 kd1
        rw [h1] at g1
        cases g1
        cases q : toPyL (toPy S n) ds with
        | none => simp only [q0, Option.bind_some, q] at e; cases e
        | some ps =>
          simp only [q0, Option.bind_some, q] at e
          cases e
          obtain ⟨b1, b2, b3⟩ := all ds us ps g3 q
          refine ⟨.lst (SqL.of g2) b1, by simp [PyData.canLay0, b2], ?_⟩
          have := depthAll_le b3
          simp only [PyData.depth]
          omega
    | frl ds =>
      unfold toPy at e
      unfold RepV at r
      obtain ⟨a, us, rfl, h1, h2⟩ := r
      cases q : toPyL (toPy S n) ds with
      | none => simp only [q] at e; cases e
      | some ps =>
        simp only [q] at e
        cases e
        obtain ⟨b1, b2, b3⟩ := all ds us ps h2 q
        refine ⟨.lst h1.sq b1, by simp [PyData.canLay0, b2], ?_⟩
        have := depthAll_le b3
        simp only [PyData.depth]
        omega
    | exn n' ns ds => cases e
    | wk ds => cases e
    | dct l => cases e
    | dtt l => cases e
    | err n' ns ds => cases e
def deep : Nat := 40
def dEq : Op2 := fun d e S => match toPy S deep d, toPy S deep e with
  | some p, some q => some (.bl (PyData.eqv p q), S)
  | _, _ => none
def dNe : Op2 := fun d e S => match toPy S deep d, toPy S deep e with
  | some p, some q => some (.bl (!PyData.eqv p q), S)
  | _, _ => none
theorem shaped_deep {p : PyData} (h1 : p.canLay0 = true) (h2 : p.depth ≤ deep) : SeqAt.shaped p = true := by
  unfold SeqAt.shaped
  rw [h1, Bool.true_and, decide_eq_true_eq]
  exact Nat.le_trans h2 (by decide)
theorem od_eq (hu : X.A.units + 64 < cLine) : OpD X c (compareOp .Eq) dEq := fun kk => by
  refine OpR.imp (op_eqD hu) fun x y H Q ⟨φ, S, d, e, rs, r1, r2, o⟩ => ?_
  unfold dEq at o
  cases q1 : toPy S deep d with
  | none => simp only [q1] at o; exact o.elim
  | some p =>
    cases q2 : toPy S deep e with
    | none => simp only [q1, q2] at o; exact o.elim
    | some q =>
      simp only [q1, q2] at o
      obtain ⟨a1, a2, a3⟩ := toPy_ok rs _ _ _ _ r1 q1
      obtain ⟨b1, b2, b3⟩ := toPy_ok rs _ _ _ _ r2 q2
      rw [kk] at a1 b1
      exact ⟨p, q, a1, b1, shaped_deep a2 a3, shaped_deep b2 b3, o φ H _ (.refl _ _) rs rep_bl⟩
theorem od_ne (hu : X.A.units + 64 < cLine) : OpD X c (compareOp .NotEq) dNe := fun kk => by
  refine OpR.imp (op_neD hu) fun x y H Q ⟨φ, S, d, e, rs, r1, r2, o⟩ => ?_
  unfold dNe at o
  cases q1 : toPy S deep d with
  | none => simp only [q1] at o; exact o.elim
  | some p =>
    cases q2 : toPy S deep e with
    | none => simp only [q1, q2] at o; exact o.elim
    | some q =>
      simp only [q1, q2] at o
      obtain ⟨a1, a2, a3⟩ := toPy_ok rs _ _ _ _ r1 q1
      obtain ⟨b1, b2, b3⟩ := toPy_ok rs _ _ _ _ r2 q2
      rw [kk] at a1 b1
      exact ⟨p, q, a1, b1, shaped_deep a2 a3, shaped_deep b2 b3, o φ H _ (.refl _ _) rs rep_bl⟩
/-! subscripts -/
def dIx : Op2 := fun d e S => match e with
  | .int i => match d with
    | .tup xs => (atI xs i).map fun v => (v, S)
    | .frl xs => (atI xs i).map fun v => (v, S)
    | .lst l => (S[l]?).bind fun xs => (atI xs i).map fun v => (v, S)
    | .str z => if z.length ≤ most then (atI z.cps.toList i).map fun k => (.str ⟨#[k]⟩, S) else none
    | _ => none
  | _ => none
theorem RepL.at {H : Hp} {φ : List Addr} {ds : List D} {vs : List V} {i : Int} {d : D} (r : RepL c H φ ds vs) (e : atI ds i = some d) : ∃ v, atI vs i = some v ∧ RepV c H φ d v := by
  unfold atI at e ⊢
  rw [r.length] at e
  cases q : ixN vs.length i with
  | none => rw [q] at e; cases e
  | some j =>
    rw [q] at e
    exact r.get e
theorem ixd : IxD X c dIx := fun kk => by
  have h0 : IxR X (fun x y H Q => rIxL X.K x y H Q ∨ rIxT X.K x y H Q ∨ rIxS x y H Q) := ix_seq
  intro value slice pins s σ H x y v u Q I rx ry ⟨φ, S, d, e, rs, r1, r2, o⟩ hs
  refine h0 value slice pins s σ H x y v u Q I rx ry ?_ hs
  cases e <;> first
    | exact False.elim o
    | skip
  rename_i i
  unfold RepV at r2
  subst r2
  cases d <;> first
    | exact False.elim o
    | skip
  · rename_i z
    unfold RepV at r1
    subst r1
    unfold dIx at o
    by_cases hz : z.length ≤ most
    · simp only [if_pos hz] at o
      cases q : atI z.cps.toList i with
      | none => rw [q] at o; exact o.elim
      | some k =>
        rw [q] at o
        exact .inr (.inr ⟨z, i, k, rfl, rfl, most_le hz, q, o φ H _ (.refl _ _) rs rep_str⟩)
    · simp only [if_neg hz] at o
      exact o.elim
  · rename_i xs
    unfold RepV at r1
    obtain ⟨a, us, rfl, h1, h2⟩ := r1
    have o : OutO c H φ (RepV c) ((atI xs i).map fun v => (v, S)) Q := o
    cases q : atI xs i with
    | none => rw [q] at o; exact o.elim
    | some d =>
      rw [q] at o
      obtain ⟨w, g1, g2⟩ := h2.at q
      exact .inr (.inl ⟨a, us, i, w, rfl, rfl, by rw [← kk]; exact h1.sq, g1, o φ H _ (.refl _ _) rs g2⟩)
  · rename_i l
    unfold RepV at r1
    obtain ⟨a, rfl, h1, kd1⟩ := r1
    have o : OutO c H φ (RepV c) ((S[l]?).bind fun xs => (atI xs i).map fun v => (v, S)) Q := o
    cases q0 : S[l]? with
    | none => rw [q0] at o; exact o.elim
    | some xs =>
      rw [q0, Option.bind_some] at o
      cases q : atI xs i with
      | none => rw [q] at o; exact o.elim
      | some d =>
        rw [q] at o
        obtain ⟨a', us, g1, g2, g3⟩ := rs.at_ l xs q0 h1 kd1
        rw [h1] at g1
        cases g1
        obtain ⟨w, k1, k2⟩ := g3.at q
        exact .inl ⟨a, us, i, w, rfl, rfl, SqL.of g2, k1, o φ H _ (.refl _ _) rs k2⟩
  · rename_i xs
    unfold RepV at r1
    obtain ⟨a, us, rfl, h1, h2⟩ := r1
    have o : OutO c H φ (RepV c) ((atI xs i).map fun v => (v, S)) Q := o
    cases q : atI xs i with
    | none => rw [q] at o; exact o.elim
    | some d =>
      rw [q] at o
      obtain ⟨w, g1, g2⟩ := h2.at q
      exact .inl ⟨a, us, i, w, rfl, rfl, by rw [← kk]; exact h1.sq, g1, o φ H _ (.refl _ _) rs g2⟩
/-! slices -/
def cutD (xs : List D) (lo hi : Option Int) : List D := (xs.drop (HT.sIx xs.length 0 lo)).take (HT.sIx xs.length xs.length hi - HT.sIx xs.length 0 lo)
def dSl (d : D) (lo hi : Option Int) (S : Sto) : Option (D × Sto) := match d with
  | .lst l => (S[l]?).map fun xs => (.lst S.length, S ++ [cutD xs lo hi])
  | .tup xs => some (.tup (cutD xs lo hi), S)
  | _ => none
def eSl (e : Ev) (lo hi : Option Ev) : Ev := fun ρ S => (e ρ S).bind fun d S1 => match lo, hi with
  | none, none => lift (dSl d none none S1)
  | some l, none => (l ρ S1).bind fun x S2 => match x with
    | .int i => lift (dSl d (some i) none S2)
    | _ => .stuck
  | none, some h => (h ρ S1).bind fun y S2 => match y with
    | .int j => lift (dSl d none (some j) S2)
    | _ => .stuck
  | some l, some h => (l ρ S1).bind fun x S2 => match x with
    | .int i => (h ρ S2).bind fun y S3 => match y with
      | .int j => lift (dSl d (some i) (some j) S3)
      | _ => .stuck
    | _ => .stuck
theorem RepL.cut {H : Hp} {φ : List Addr} {ds : List D} {vs : List V} (r : RepL c H φ ds vs) (lo hi : Option Int) : RepL c H φ (cutD ds lo hi) (cutV vs lo hi) := by
  unfold cutD cutV
  rw [r.length]
  exact (r.drop _).take _
theorem sl_read {K : PySem.W.Frag} {d : D} {v : V} {lo hi : Option Int} {H : Hp} {φ : List Addr} {S : Sto} {Q : VK} (kk : c.K = K) (rs : RepS c H φ S) (r : RepV c H φ d v) (o : OutO c H φ (RepV c) (dSl d lo hi S) Q) : rSlL K v lo hi H Q ∨ rSlN K v lo hi H Q := by
  cases d <;> first
    | exact False.elim o
    | skip
  · rename_i xs
    unfold RepV at r
    obtain ⟨a, us, rfl, h1, h2⟩ := r
    have cut := h2.cut lo hi
    refine .inr ⟨a, us, rfl, by rw [← kk]; exact h1.sq, fun hw => ?_, fun _ => new_tup rs cut o⟩
    have ew : cutD xs lo hi = xs := by
      unfold cutD
      rw [h2.length, hw.1, hw.2, List.drop_zero, Nat.sub_zero, ← h2.length, List.take_length]
    have o : OutO c H φ (RepV c) (some (D.tup (cutD xs lo hi), S)) Q := o
    rw [ew] at o
    exact old_tup rs h1 h2 o
  · rename_i l
    unfold RepV at r
    obtain ⟨a, rfl, h1, kd1⟩ := r
    have o : OutO c H φ (RepV c) ((S[l]?).map fun xs => (D.lst S.length, S ++ [cutD xs lo hi])) Q := o
    cases q0 : S[l]? with
    | none => rw [q0] at o; exact o.elim
    | some xs =>
      rw [q0] at o
      obtain ⟨a', us, g1, g2, g3⟩ := rs.at_ l xs q0 h1 kd1
      rw [h1] at g1
      cases g1
      exact .inl ⟨a, us, rfl, SqL.of g2, new_list rs (g3.cut lo hi) o⟩
theorem slr : SlR X (fun x lo hi H Q => rSlL X.K x lo hi H Q ∨ rSlN X.K x lo hi H Q) := SlR.or sl_list sl_tupN
theorem me_sl {p2 : Pos} (h : ME X c W a ea) : ME X c W (.Subscript a (.Slice none none none p2) pos) (eSl ea none none) := fun s => by
  refine PE.imp (pe_slice slr (h s) po_none po_none) fun σ H Q ⟨φ, ρ, S, re, rs, o⟩ => ?_
  exact ⟨φ, ρ, S, re, rs, Out.bind o fun x S1 φ1 H1 v e1 s1 r1 o1 => sl_read s.kk s1 r1 (OutO.of o1)⟩
theorem me_slL {p2 : Pos} {lo : Expr} {el : Ev} (h : ME X c W a ea) (hl : ME X c W lo el) : ME X c W (.Subscript a (.Slice (some lo) none none p2) pos) (eSl ea (some el) none) := fun s => by
  refine PE.imp (pe_slice slr (h s) (po_some (hl s)) po_none) fun σ H Q ⟨φ, ρ, S, re, rs, o⟩ => ?_
  refine ⟨φ, ρ, S, re, rs, Out.bind o fun x S1 φ1 H1 v e1 s1 r1 o1 => ?_⟩
  refine ⟨φ1, ρ, S1, re.ext rs e1, s1, Out.bind o1 fun y S2 φ2 H2 w e2 s2 r2 o2 => ?_⟩
  cases y <;> first
    | exact False.elim o2
    | skip
  rename_i i
  unfold RepV at r2
  exact ⟨i, r2, sl_read s.kk s2 (RepV.ext s1.ls e2 _ _ r1) (OutO.of o2)⟩
theorem me_slH {p2 : Pos} {hi : Expr} {eh : Ev} (h : ME X c W a ea) (hh : ME X c W hi eh) : ME X c W (.Subscript a (.Slice none (some hi) none p2) pos) (eSl ea none (some eh)) := fun s => by
  refine PE.imp (pe_slice slr (h s) po_none (po_some (hh s))) fun σ H Q ⟨φ, ρ, S, re, rs, o⟩ => ?_
  refine ⟨φ, ρ, S, re, rs, Out.bind o fun x S1 φ1 H1 v e1 s1 r1 o1 => ?_⟩
  refine ⟨φ1, ρ, S1, re.ext rs e1, s1, Out.bind o1 fun y S2 φ2 H2 w e2 s2 r2 o2 => ?_⟩
  cases y <;> first
    | exact False.elim o2
    | skip
  rename_i i
  unfold RepV at r2
  exact ⟨i, r2, sl_read s.kk s2 (RepV.ext s1.ls e2 _ _ r1) (OutO.of o2)⟩
theorem me_slB {p2 : Pos} {lo hi : Expr} {el eh : Ev} (h : ME X c W a ea) (hl : ME X c W lo el) (hh : ME X c W hi eh) : ME X c W (.Subscript a (.Slice (some lo) (some hi) none p2) pos) (eSl ea (some el) (some eh)) := fun s => by
  refine PE.imp (pe_slice slr (h s) (po_some (hl s)) (po_some (hh s))) fun σ H Q ⟨φ, ρ, S, re, rs, o⟩ => ?_
  refine ⟨φ, ρ, S, re, rs, Out.bind o fun x S1 φ1 H1 v e1 s1 r1 o1 => ?_⟩
  refine ⟨φ1, ρ, S1, re.ext rs e1, s1, Out.bind o1 fun y S2 φ2 H2 w e2 s2 r2 o2 => ?_⟩
  cases y <;> first
    | exact False.elim o2
    | skip
  rename_i i
  unfold RepV at r2
  refine ⟨i, r2, φ2, ρ, S2, (re.ext rs e1).ext s1 e2, s2, Out.bind o2 fun y S3 φ3 H3 w e3 s3 r3 o3 => ?_⟩
  cases y <;> first
    | exact False.elim o3
    | skip
  rename_i j
  unfold RepV at r3
  exact ⟨j, r3, sl_read s.kk s3 (RepV.ext s1.ls (e2.trans e3) _ _ r1) (OutO.of o3)⟩
def dRev (d : D) (S : Sto) : Option (D × Sto) := match d with
  | .lst l => (S[l]?).map fun xs => (.lst S.length, S ++ [xs.reverse])
  | _ => none
theorem me_rev {k : Nat} {p1 p2 p3 : Pos} (h : ME X c W a ea) : ME X c W (.Subscript a (.Slice none none (some (.UnaryOp .USub (.Constant (.int 1) k p1) p2)) p3) pos) (eU dRev ea) := fun s => by
  refine PE.imp (pe_revL (h s)) fun σ H Q ⟨φ, ρ, S, re, rs, o⟩ => ?_
  refine ⟨φ, ρ, S, re, rs, Out.bind o fun x S1 φ1 H1 v e1 s1 r1 o1 => ?_⟩
  replace o1 := OutO.of o1
  cases x <;> first
    | exact False.elim o1
    | skip
  rename_i l
  unfold RepV at r1
  obtain ⟨a', rfl, h1, kd1⟩ := r1
  have o1 : OutO c H1 φ1 (RepV c) ((S1[l]?).map fun xs => (D.lst S1.length, S1 ++ [xs.reverse])) Q := o1
  cases q0 : S1[l]? with
  | none => rw [q0] at o1; exact o1.elim
  | some xs =>
    rw [q0] at o1
    obtain ⟨a2, us, g1, g2, g3⟩ := s1.at_ l xs q0 h1 kd1
    rw [h1] at g1
    cases g1
    exact ⟨a', us, rfl, SqL.of g2, new_list s1 g3.reverse o1⟩
end
end MP
end
section
set_option Elab.async false
set_option linter.all false
set_option maxRecDepth 100000
set_option maxHeartbeats 4000000
/-! MP6: what is built in: calls and methods, on data. -/
namespace MP
open PySem PySem.Spec PyProof.Rows L2

section
variable {X : Cx} {c : Cz} {W : WX} {a b d : Expr} {ea eb ed : Ev} {pos : Pos} {es : List Expr} {ra : EvA} {x : Str} {p : Pos}
abbrev OpL := List D → Sto → Option (D × Sto)
/-- the items of a list or a tuple -/
def itemsOf (d : D) (S : Sto) : Option (List D) := match d with
  | .lst l => S[l]?
  | .tup xs => some xs
  | .frl xs => some xs
  | _ => none
theorem items_at {d : D} {v : V} {xs : List D} {H : Hp} {φ : List Addr} {S : Sto} (rs : RepS c H φ S) (r : RepV c H φ d v) (e : itemsOf d S = some xs) :
    ∃ q us, v = .ref q ∧ RepL c H φ xs us ∧ ((isTup d = false ∧ SqL c.K H q us) ∨ (isTup d = true ∧ SqN c.K H q us)) := by
  cases d <;> first
    | (cases e; done)
    | skip
  · cases e
    unfold RepV at r
    obtain ⟨q, us, rfl, h1, h2⟩ := r
    exact ⟨q, us, rfl, h2, .inr ⟨rfl, h1⟩⟩
  · rename_i l
    unfold RepV at r
    obtain ⟨q, rfl, h1, kd1⟩ := r
    obtain ⟨q', us, g1, g2, g3⟩ := rs.at_ l xs e h1 kd1
    rw [h1] at g1
    cases g1
    exact ⟨q, us, rfl, g3, .inl ⟨rfl, SqL.of g2⟩⟩
  · cases e
    unfold RepV at r
    obtain ⟨q, us, rfl, h1, h2⟩ := r
    exact ⟨q, us, rfl, h2, .inl ⟨rfl, h1.sq⟩⟩
theorem CallR.imp {f : Value} {r r' : List V → Hp → VK → Prop} (h : CallR X f r) (k : ∀ x H Q, r' x H Q → r x H Q) : CallR X f r' := fun pins s σ H x u Q I rx q => h pins s σ H x u Q I rx (k _ _ _ q)
theorem CallR.or {f : Value} {r r' : List V → Hp → VK → Prop} (h : CallR X f r) (h' : CallR X f r') : CallR X f (fun x H Q => r x H Q ∨ r' x H Q) := fun pins s σ H x u Q I rx q => by
  rcases q with q | q
  · exact h pins s σ H x u Q I rx q
  · exact h' pins s σ H x u Q I rx q
theorem RepL.one {H : Hp} {φ : List Addr} {d : D} {vs : List V} (r : RepL c H φ [d] vs) : ∃ v, vs = [v] ∧ RepV c H φ d v := by
  unfold RepL at r
  obtain ⟨v, vr, rfl, h1, h2⟩ := r
  unfold RepL at h2
  subst h2
  exact ⟨v, rfl, h1⟩
theorem RepL.two {H : Hp} {φ : List Addr} {d e : D} {vs : List V} (r : RepL c H φ [d, e] vs) : ∃ v w, vs = [v, w] ∧ RepV c H φ d v ∧ RepV c H φ e w := by
  unfold RepL at r
  obtain ⟨v, vr, rfl, h1, h2⟩ := r
  obtain ⟨w, rfl, h3⟩ := RepL.one h2
  exact ⟨v, w, rfl, h1, h3⟩
/-! len -/
def dLen : OpL := fun ds S => match ds with
  | [.str z] => if z.length ≤ most then some (.int z.length, S) else none
  | [d] => (itemsOf d S).map fun xs => (.int xs.length, S)
  | _ => none
theorem cd_len : CallD X c (.builtin "len") dLen := fun kk => by
  refine CallR.imp (CallR.or call_len_seq call_len_str) fun vs H Q ⟨φ, S, ds, rs, r, o⟩ => ?_
  unfold dLen at o
  split at o
  · rename_i z
    obtain ⟨v, rfl, rv⟩ := r.one
    replace r := rv
    unfold RepV at r
    subst r
    by_cases hz : z.length ≤ most
    · rw [if_pos hz] at o
      exact .inr ⟨z, rfl, most_le hz, o φ H _ (.refl _ _) rs rep_int⟩
    · rw [if_neg hz] at o
      exact o.elim
  · rename_i d _
    obtain ⟨v, rfl, rv⟩ := r.one
    replace r := rv
    cases q : itemsOf d S with
    | none => rw [q] at o; exact o.elim
    | some xs =>
      rw [q] at o
      obtain ⟨q', us, rfl, k1, k2⟩ := items_at rs r q
      refine .inl ⟨q', us, rfl, ?_, ?_⟩
      · rw [← kk]
        rcases k2 with ⟨_, k2⟩ | ⟨_, k2⟩
        · exact .inl k2
        · exact .inr k2.sq
      · rw [← k1.length]
        exact o φ H _ (.refl _ _) rs rep_int
  · exact o.elim
/-! list(x), tuple(x) -/
def dListOf : OpL := fun ds S => match ds with
  | [d] => (itemsOf d S).map fun xs => (.lst S.length, S ++ [xs])
  | _ => none
theorem cd_list : CallD X c (.type "list") dListOf := fun kk => by
  refine CallR.imp call_list_of fun vs H Q ⟨φ, S, ds, rs, r, o⟩ => ?_
  unfold dListOf at o
  split at o
  · rename_i d
    obtain ⟨v, rfl, rv⟩ := r.one
    replace r := rv
    cases q : itemsOf d S with
    | none => rw [q] at o; exact o.elim
    | some xs =>
      rw [q] at o
      obtain ⟨q', us, rfl, k1, k2⟩ := items_at rs r q
      refine ⟨q', us, rfl, ?_, new_list rs k1 o⟩
      rw [← kk]
      rcases k2 with ⟨_, k2⟩ | ⟨_, k2⟩
      · exact .inl k2
      · exact .inr k2.sq
  · exact o.elim
def dTupOf : OpL := fun ds S => match ds with
  | [d] => (itemsOf d S).map fun xs => (.tup xs, S)
  | _ => none
theorem cd_tuple : CallD X c (.type "tuple") dTupOf := fun kk => by
  refine CallR.imp call_tupleN fun vs H Q ⟨φ, S, ds, rs, r, o⟩ => ?_
  unfold dTupOf at o
  split at o
  · rename_i d
    obtain ⟨v, rfl, rv⟩ := r.one
    replace r := rv
    cases q : itemsOf d S with
    | none => rw [q] at o; exact o.elim
    | some xs =>
      rw [q] at o
      obtain ⟨q', us, rfl, k1, k2⟩ := items_at rs r q
      refine ⟨q', us, rfl, ?_⟩
      rw [← kk]
      rcases k2 with ⟨_, k2⟩ | ⟨_, k2⟩
      · exact .inl ⟨k2, new_tup rs k1 o⟩
      · exact .inr ⟨k2.sq, old_tup rs k2 k1 o⟩
  · exact o.elim
/-! int(x), abs(x), max, min of two, str of an int -/
def dInt : OpL := fun ds S => match ds with
  | [.int i] => some (.int i, S)
  | [.bl k] => some (.int (if k = true then 1 else 0), S)
  | _ => none
theorem cd_int : CallD X c (.type "int") dInt := fun kk => by
  refine CallR.imp call_int1 fun vs H Q ⟨φ, S, ds, rs, r, o⟩ => ?_
  unfold dInt at o
  split at o
  · obtain ⟨v, rfl, rv⟩ := r.one
    replace r := rv
    unfold RepV at r
    subst r
    exact .inl ⟨_, rfl, o φ H _ (.refl _ _) rs rep_int⟩
  · obtain ⟨v, rfl, rv⟩ := r.one
    replace r := rv
    unfold RepV at r
    subst r
    exact .inr ⟨_, rfl, o φ H _ (.refl _ _) rs rep_int⟩
  · exact o.elim
def dAbs : OpL := fun ds S => match ds with
  | [.int i] => some (.int (i.natAbs : Int), S)
  | _ => none
theorem cd_abs : CallD X c (.builtin "abs") dAbs := fun kk => by
  refine CallR.imp call_abs fun vs H Q ⟨φ, S, ds, rs, r, o⟩ => ?_
  unfold dAbs at o
  split at o
  · rename_i i
    obtain ⟨v, rfl, rv⟩ := r.one
    replace r := rv
    unfold RepV at r
    subst r
    refine ⟨_, rfl, o φ H _ (.refl _ _) rs ?_⟩
    have e : (if i < 0 then -i else i) = (i.natAbs : Int) := by
      split <;> omega
    rw [e]
    exact rep_int
  · exact o.elim
def dMax2 : OpL := fun ds S => match ds with
  | [.int i, .int j] => some (.int (if j > i then j else i), S)
  | _ => none
theorem cd_max2 (hc : X.calm = true) : CallD X c (.builtin "max") dMax2 := fun kk => by
  refine CallR.imp (call_max2 hc) fun vs H Q ⟨φ, S, ds, rs, r, o⟩ => ?_
  unfold dMax2 at o
  split at o
  · obtain ⟨v, w, rfl, r1, r2⟩ := r.two
    unfold RepV at r1 r2
    subst r1 r2
    exact ⟨_, _, rfl, o φ H _ (.refl _ _) rs rep_int⟩
  · exact o.elim
def dMin2 : OpL := fun ds S => match ds with
  | [.int i, .int j] => some (.int (if j < i then j else i), S)
  | _ => none
theorem cd_min2 (hc : X.calm = true) : CallD X c (.builtin "min") dMin2 := fun kk => by
  refine CallR.imp (call_min2 hc) fun vs H Q ⟨φ, S, ds, rs, r, o⟩ => ?_
  unfold dMin2 at o
  split at o
  · obtain ⟨v, w, rfl, r1, r2⟩ := r.two
    unfold RepV at r1 r2
    subst r1 r2
    exact ⟨_, _, rfl, o φ H _ (.refl _ _) rs rep_int⟩
  · exact o.elim
def dStr : OpL := fun ds S => match ds with
  | [.int i] => if i.natAbs.log2 < 1920 then some (.str (toString i), S) else none
  | _ => none
theorem cd_str : CallD X c (.type "str") dStr := fun kk => by
  refine CallR.imp call_str_int fun vs H Q ⟨φ, S, ds, rs, r, o⟩ => ?_
  unfold dStr at o
  split at o
  · rename_i i
    obtain ⟨v, rfl, rv⟩ := r.one
    replace r := rv
    unfold RepV at r
    subst r
    by_cases hz : i.natAbs.log2 < 1920
    · rw [if_pos hz] at o
      exact ⟨_, rfl, hz, o φ H _ (.refl _ _) rs rep_str⟩
    · rw [if_neg hz] at o
      exact o.elim
  · exact o.elim
/-! math.gcd, math.lcm of two -/
def dGcd : OpL := fun ds S => match ds with
  | [.int i, .int j] => some (.int ((Nat.gcd i.natAbs j.natAbs : Nat) : Int), S)
  | _ => none
theorem cd_gcd : CallD X c (.builtin "math.gcd") dGcd := fun kk => by
  refine CallR.imp cr_gcd fun vs H Q ⟨φ, S, ds, rs, r, o⟩ => ?_
  unfold dGcd at o
  split at o
  · obtain ⟨v, w, rfl, r1, r2⟩ := r.two
    unfold RepV at r1 r2
    subst r1 r2
    exact ⟨_, _, rfl, o φ H _ (.refl _ _) rs rep_int⟩
  · exact o.elim
def lcmOk (i j : Int) : Prop := i.natAbs < 2 ^ 13400 ∧ j.natAbs < 2 ^ 13400
noncomputable instance (i j : Int) : Decidable (lcmOk i j) := Classical.propDecidable _
noncomputable def dLcm : OpL := fun ds S => match ds with
  | [.int i, .int j] => if lcmOk i j then some (.int ((Nat.lcm i.natAbs j.natAbs : Nat) : Int), S) else none
  | _ => none
theorem log2_lt_of_pow {n k : Nat} (h : n < 2 ^ k) (h0 : 0 < k) : n.log2 < k := PySem.Flt.log2_lt_of h0 h
theorem cr_lcm : CallR X (.builtin "math.lcm") (fun vs H Q => ∃ i j : Int, vs = [.int i, .int j] ∧ lcmOk i j ∧ Q (.int ((Nat.lcm i.natAbs j.natAbs : Nat) : Int)) H) := by
  intro pins s σ H vs us Q I r ⟨i, j, e, ok, q⟩
  subst e
  obtain ⟨t, u, rfl⟩ := Vals.int2 r
  have g1 : ∀ n : Nat, n < 2 ^ 13400 → ¬ (max 1 n).log2 / 30 + 1 > 450 := fun n hn => by
    have : (max 1 n).log2 < 13400 := log2_lt_of_pow (by
      rcases Nat.le_total 1 n with h | h
      · rw [Nat.max_eq_right h]; exact hn
      · rw [Nat.max_eq_left h]; exact Nat.one_lt_two_pow (by decide)) (by decide)
    omega
  have g2 : ¬ (max i.natAbs j.natAbs).log2 / 30 + 1 > 450 := by
    have : (max i.natAbs j.natAbs).log2 < 13400 := log2_lt_of_pow (by
      rcases Nat.le_total i.natAbs j.natAbs with h | h
      · rw [Nat.max_eq_right h]; exact ok.2
      · rw [Nat.max_eq_left h]; exact ok.1) (by decide)
    omega
  have e1 : (Nat.lcm 1 i.natAbs).lcm j.natAbs = Nat.lcm i.natAbs j.natAbs := by rw [Nat.lcm_one_left]
  have sz : ((((Nat.lcm 1 i.natAbs).lcm j.natAbs : Nat) : Int)).natAbs.log2 < bitsLine := by
    rw [e1, Int.natAbs_natCast]
    have hb : bitsLine = 134217728 := by decide
    have hle : Nat.lcm i.natAbs j.natAbs < 2 ^ 26800 := by
      by_cases hz : i.natAbs = 0
      · rw [hz, Nat.lcm_zero_left]; exact Nat.two_pow_pos _
      by_cases hz2 : j.natAbs = 0
      · rw [hz2, Nat.lcm_zero_right]; exact Nat.two_pow_pos _
      have : Nat.lcm i.natAbs j.natAbs ≤ i.natAbs * j.natAbs := Nat.le_of_dvd (Nat.mul_pos (Nat.pos_of_ne_zero hz) (Nat.pos_of_ne_zero hz2)) (Nat.lcm_dvd (Nat.dvd_mul_right _ _) (Nat.dvd_mul_left _ _))
      refine Nat.lt_of_le_of_lt this ?_
      have e2 : (2 : Nat) ^ 26800 = 2 ^ 13400 * 2 ^ 13400 := by rw [← Nat.pow_add]
      rw [e2]
      exact Nat.mul_lt_mul'' ok.1 ok.2
    have := log2_lt_of_pow hle (by decide)
    omega
  refine call_function_meets PySem.W.MGF.kind_lcm PySem.W.MGF.plain_lcm PySem.W.MGF.entry_lcm (PySem.W.MGF.args_lcm _ _) (PySem.W.mg_run_lcm i t j u (g1 _ ok.1) g2 sz).meets ?_
  rw [e1]
  exact ⟨.int _, H, I.tok _, ⟨_, rfl⟩, q⟩
theorem cd_lcm : CallD X c (.builtin "math.lcm") dLcm := fun kk => by
  refine CallR.imp cr_lcm fun vs H Q ⟨φ, S, ds, rs, r, o⟩ => ?_
  unfold dLcm at o
  split at o
  · rename_i i j
    obtain ⟨v, w, rfl, r1, r2⟩ := r.two
    unfold RepV at r1 r2
    subst r1 r2
    by_cases hz : lcmOk i j
    · rw [if_pos hz] at o
      exact ⟨_, _, rfl, hz, o φ H _ (.refl _ _) rs rep_int⟩
    · rw [if_neg hz] at o
      exact o.elim
  · exact o.elim
/-! sum of ints, all and any of truth values, of a list -/
def intsOf : List D → Option (List Int)
  | [] => some []
  | .int i :: ds => (intsOf ds).map fun is => i :: is
  | _ :: _ => none
def boolsOf : List D → Option (List Bool)
  | [] => some []
  | .bl i :: ds => (boolsOf ds).map fun is => i :: is
  | _ :: _ => none
theorem intsOf_rep {H : Hp} {φ : List Addr} : ∀ {ds : List D} {vs : List V} {is : List Int}, RepL c H φ ds vs → intsOf ds = some is → vs = is.map V.int
  | [], vs, is, r, e => by
    unfold RepL at r
    cases e
    exact r
  | d :: ds, vs, is, r, e => by
    unfold RepL at r
    obtain ⟨v, vr, rfl, r1, r2⟩ := r
    cases d <;> first
      | (cases e; done)
      | skip
    rename_i i
    have e : (intsOf ds).map (fun is => i :: is) = some is := e
    cases q : intsOf ds with
    | none => rw [q] at e; cases e
    | some js =>
      rw [q] at e
      cases e
      unfold RepV at r1
      rw [r1, intsOf_rep r2 q]
      rfl
theorem boolsOf_rep {H : Hp} {φ : List Addr} : ∀ {ds : List D} {vs : List V} {is : List Bool}, RepL c H φ ds vs → boolsOf ds = some is → vs = is.map V.bl
  | [], vs, is, r, e => by
    unfold RepL at r
    cases e
    exact r
  | d :: ds, vs, is, r, e => by
    unfold RepL at r
    obtain ⟨v, vr, rfl, r1, r2⟩ := r
    cases d <;> first
      | (cases e; done)
      | skip
    rename_i i
    have e : (boolsOf ds).map (fun is => i :: is) = some is := e
    cases q : boolsOf ds with
    | none => rw [q] at e; cases e
    | some js =>
      rw [q] at e
      cases e
      unfold RepV at r1
      rw [r1, boolsOf_rep r2 q]
      rfl
def dSum : OpL := fun ds S => match ds with
  | [.lst l] => (S[l]?).bind fun xs => (intsOf xs).map fun is => (.int is.sum, S)
  | _ => none
def dAll : OpL := fun ds S => match ds with
  | [.lst l] => (S[l]?).bind fun xs => (boolsOf xs).map fun is => (.bl (is.all id), S)
  | _ => none
def dAny : OpL := fun ds S => match ds with
  | [.lst l] => (S[l]?).bind fun xs => (boolsOf xs).map fun is => (.bl (is.any id), S)
  | _ => none
theorem lst_at {l : Nat} {v : V} {xs : List D} {H : Hp} {φ : List Addr} {S : Sto} (rs : RepS c H φ S) (r : RepV c H φ (.lst l) v) (e : S[l]? = some xs) : ∃ q us, v = .ref q ∧ φ[l]? = some q ∧ H q = some (.lst us) ∧ RepL c H φ xs us := by
  unfold RepV at r
  obtain ⟨q, rfl, h1, kd1⟩ := r
  obtain ⟨q', us, g1, g2, g3⟩ := rs.at_ l xs e h1 kd1
  rw [h1] at g1
  cases g1
  exact ⟨q, us, rfl, h1, g2, g3⟩
theorem cd_sum (hc : X.calm = true) : CallD X c (.builtin "sum") dSum := fun kk => by
  refine CallR.imp (cr_sum hc) fun vs H Q ⟨φ, S, ds, rs, r, o⟩ => ?_
  unfold dSum at o
  split at o
  · rename_i l
    obtain ⟨v, rfl, rv⟩ := r.one
    replace r := rv
    cases q : S[l]? with
    | none => rw [q] at o; exact o.elim
    | some xs =>
      rw [q, Option.bind_some] at o
      cases q2 : intsOf xs with
      | none => rw [q2] at o; exact o.elim
      | some is =>
        rw [q2] at o
        obtain ⟨q', us, rfl, k0, k1, k2⟩ := lst_at rs r q
        exact ⟨q', is, rfl, SqL.of (by rw [k1, intsOf_rep k2 q2]), o φ H _ (.refl _ _) rs rep_int⟩
  · exact o.elim
theorem cd_all (hc : X.calm = true) : CallD X c (.builtin "all") dAll := fun kk => by
  refine CallR.imp (cr_all hc) fun vs H Q ⟨φ, S, ds, rs, r, o⟩ => ?_
  unfold dAll at o
  split at o
  · rename_i l
    obtain ⟨v, rfl, rv⟩ := r.one
    replace r := rv
    cases q : S[l]? with
    | none => rw [q] at o; exact o.elim
    | some xs =>
      rw [q, Option.bind_some] at o
      cases q2 : boolsOf xs with
      | none => rw [q2] at o; exact o.elim
      | some is =>
        rw [q2] at o
        obtain ⟨q', us, rfl, k0, k1, k2⟩ := lst_at rs r q
        exact ⟨q', is, rfl, SqL.of (by rw [k1, boolsOf_rep k2 q2]), o φ H _ (.refl _ _) rs rep_bl⟩
  · exact o.elim
theorem cd_any (hc : X.calm = true) : CallD X c (.builtin "any") dAny := fun kk => by
  refine CallR.imp (cr_any hc) fun vs H Q ⟨φ, S, ds, rs, r, o⟩ => ?_
  unfold dAny at o
  split at o
  · rename_i l
    obtain ⟨v, rfl, rv⟩ := r.one
    replace r := rv
    cases q : S[l]? with
    | none => rw [q] at o; exact o.elim
    | some xs =>
      rw [q, Option.bind_some] at o
      cases q2 : boolsOf xs with
      | none => rw [q2] at o; exact o.elim
      | some is =>
        rw [q2] at o
        obtain ⟨q', us, rfl, k0, k1, k2⟩ := lst_at rs r q
        exact ⟨q', is, rfl, SqL.of (by rw [k1, boolsOf_rep k2 q2]), o φ H _ (.refl _ _) rs rep_bl⟩
  · exact o.elim
/-! isinstance(x, T), T built in -/
def tyName : D → String
  | .non => "NoneType"
  | .bl _ => "bool"
  | .int _ => "int"
  | .str _ => "str"
  | .tup _ => "tuple"
  | .lst _ => "list"
  | .frl _ => "list"
  | _ => ""
def dIsi (T : String) : D → Sto → Option (D × Sto) := fun d S => match d with
  | .exn .. => none
  | .wk _ => none
  | .dct _ => none
  | .dtt _ => none
  | .err .. => none
  | _ => (kitB (tyName d) T).map fun k => (.bl k, S)
def tyd : D → Bool
  | .exn .. => false
  | .wk _ => false
  | .dct _ => false
  | .dtt _ => false
  | .err .. => false
  | _ => true
theorem ty_of {d : D} {v : V} {H : Hp} {φ : List Addr} {S : Sto} (rs : RepS c H φ S) (r : RepV c H φ d v) (n : tyd d = true) : TyX c.K H v (.type (tyName d)) := by
  cases d with
  | non => unfold RepV at r; subst r; exact .base .non
  | bl k => unfold RepV at r; subst r; exact .base (.bl k)
  | int i => unfold RepV at r; subst r; exact .base (.int i)
  | str z => unfold RepV at r; subst r; exact .base (.str z)
  | tup xs =>
    unfold RepV at r
    obtain ⟨q, us, rfl, h1, h2⟩ := r
    rcases h1 with ⟨o, _, h1⟩ | ⟨o, its, n, _, h1, h3, _⟩
    · exact .fTuple h1
    · exact .kTuple h1 h3
  | lst l =>
    unfold RepV at r
    obtain ⟨q, rfl, h1, kd1⟩ := r
    obtain ⟨vs, h2⟩ := kind_lst kd1
    exact .base (.lst h2)
  | frl xs =>
    unfold RepV at r
    obtain ⟨q, us, rfl, h1, h2⟩ := r
    rcases h1 with ⟨o, h1⟩ | ⟨o, its, n, h1, h3, _⟩
    · exact .base (.frz h1)
    · exact .kList h1 h3
  | exn a b e => cases n
  | wk xs => cases n
  | dct l => cases n
  | dtt l => cases n
  | err a b e => cases n
theorem me_isi {T : String} {y : Str} {py : Pos} (h : ME X c W a ea) (hm : X.mg "isinstance" = none) (hm2 : X.mg y = none) (hv2 : bootBuiltins y = some (.type T) := by decide +kernel) (hg : Gl X "isinstance" := by rfl) (hg2 : Gl X y := by rfl) (hn2 : y ≠ "__name__" := by decide) (hd2 : (y == ("__debug__" : Str)) = false := by decide)
    (he1 : starEach [a, .Name y py] X.env = (false, eval a X.env) :: starEach [.Name y py] X.env := by rfl) (he2 : starEach [.Name y py] X.env = (false, eval (.Name y py) X.env) :: starEach [] X.env := by rfl) (hpl : (backTo pos (starEach [.Name y py] X.env)).any (·.1) = false := by rfl) :
    ME X c W (.Call (.Name "isinstance" p) [a, .Name y py] [] pos) (eU (dIsi T) ea) := fun s => by
  refine PE.imp (pe_callB call_isi hg hm (by decide +kernel) (pa_cons (h s) (pa_cons (pe_bltn (v := .ty T) hg2 hm2 hv2 rfl hn2 hd2) pa_nil he2) he1) (by decide) (by decide) he1 hpl) fun σ H Q ⟨φ, ρ, S, re, rs, o⟩ => ?_
  refine ⟨φ, ρ, S, re, rs, Out.bind o fun x S1 φ1 H1 v e1 s1 r1 o1 => ?_⟩
  replace o1 := OutO.of o1
  have key : ∀ k, kitB (tyName x) T = some k → tyd x = true → OutO c H1 φ1 (RepV c) (some (D.bl k, S1)) Q → rIsi X.K [v, .ty T] H1 Q := fun k hk hn o1 =>
    ⟨v, .ty T, _, _, k, rfl, .ty T, by rw [← s.kk]; exact ty_of s1 r1 hn, kit_ty hk, o1 φ1 H1 _ (.refl _ _) s1 rep_bl⟩
  have go : ∀ (hn : tyd x = true), OutO c H1 φ1 (RepV c) ((kitB (tyName x) T).map fun k => (D.bl k, S1)) Q → rIsi X.K [v, .ty T] H1 Q := fun hn o1 => by
    cases hq : kitB (tyName x) T with
    | none => rw [hq] at o1; exact o1.elim
    | some k =>
      rw [hq] at o1
      exact key k hq hn o1
  cases x <;> first
    | exact go rfl o1
    | exact o1.elim
/-! methods of lists -/
def eMt (g : Nat → List D → Sto → Option (D × Sto)) (eo : Ev) (ra : EvA) : Ev := fun ρ S => (eo ρ S).bind fun d S1 => match d with
  | .lst l => (ra ρ S1).bind fun ds S2 => lift (g l ds S2)
  | _ => .stuck
def eMt0 (g : Nat → List D → Sto → Option (D × Sto)) (eo : Ev) : Ev := fun ρ S => (eo ρ S).bind fun d S1 => match d with
  | .lst l => lift (g l [] S1)
  | _ => .stuck
def MtD (X : Cx) (c : Cz) (id : String) (g : Nat → List D → Sto → Option (D × Sto)) : Prop :=
  c.K = X.K → MtR X id fun v vs H Q => ∃ φ S l ds, RepS c H φ S ∧ RepV c H φ (.lst l) v ∧ RepL c H φ ds vs ∧ OutO c H φ (RepV c) (g l ds S) Q
theorem MtR.imp {id : String} {r r' : V → List V → Hp → VK → Prop} (h : MtR X id r) (k : ∀ v x H Q, r' v x H Q → r v x H Q) : MtR X id r' := fun pins s σ H x xs v us Q I rx rv q => h pins s σ H x xs v us Q I rx rv (k _ _ _ _ q)
theorem me_bm {name : Str} {id : String} {g : Nat → List D → Sto → Option (D × Sto)} {o : Expr} {eo : Ev} {apos : Pos} (slot : Slot "list" name id) (hty : typeOf (.builtin id) = pure (.type "method_descriptor")) (hm : MtD X c id g)
    (ho : ME X c W o eo) (ha : MA X c W (a :: es) ra) (hbase : attributeBase o name X.env (eval o X.env) = eval o X.env := by rfl)
    (hfew : ((backTo pos (starEach (a :: es) X.env)).all (fun x => !x.1) && (backToKw pos (keywordEach [] X.env)).all (fun x => x.1.isSome)
      && decide ((a :: es).length + ([] : List Keyword).length + (if ([] : List Keyword).isEmpty then 0 else 1) < 30)) = true := by rfl)
    (hline : (apos.endLine == pos.line) = true := by rfl) (hs : starEach (a :: es) X.env = (false, eval a X.env) :: starEach es X.env := by rfl) (hpl : (backTo pos (starEach es X.env)).any (·.1) = false := by rfl) :
    ME X c W (.Call (.Attribute o name apos) (a :: es) [] pos) (eMt g eo ra) := fun s => by
  refine PE.imp (pe_bm PySem.F.plainAttrs_list slot hty (hm s.kk) (ho s) (ha s) hbase hfew hline hs hpl) fun σ H Q ⟨φ, ρ, S, re, rs, o⟩ => ?_
  refine ⟨φ, ρ, S, re, rs, Out.bind o fun d S1 φ1 H1 v e1 s1 r1 o1 => ?_⟩
  cases d <;> first
    | exact False.elim o1
    | skip
  rename_i l
  refine ⟨?_, φ1, ρ, S1, re.ext rs e1, s1, Out.bind o1 fun ds S2 φ2 H2 vs e2 s2 r2 o2 => ⟨φ2, S2, l, ds, s2, RepV.ext s1.ls e2 _ _ r1, r2, OutO.of o2⟩⟩
  unfold RepV at r1
  obtain ⟨q, rfl, h1, kd1⟩ := r1
  obtain ⟨vs, h2⟩ := kind_lst kd1
  exact .inl ⟨rfl, _, SqL.of h2⟩
theorem me_bm0 {name : Str} {id : String} {g : Nat → List D → Sto → Option (D × Sto)} {o : Expr} {eo : Ev} {apos : Pos} (slot : Slot "list" name id) (hty : typeOf (.builtin id) = pure (.type "method_descriptor")) (hm : MtD X c id g)
    (ho : ME X c W o eo) (hbase : attributeBase o name X.env (eval o X.env) = eval o X.env := by rfl) (hline : (apos.endLine == pos.line) = true := by rfl) :
    ME X c W (.Call (.Attribute o name apos) [] [] pos) (eMt0 g eo) := fun s => by
  refine PE.imp (pe_bm0 PySem.F.plainAttrs_list slot hty (hm s.kk) (ho s) hbase hline) fun σ H Q ⟨φ, ρ, S, re, rs, o⟩ => ?_
  refine ⟨φ, ρ, S, re, rs, Out.bind o fun d S1 φ1 H1 v e1 s1 r1 o1 => ?_⟩
  cases d <;> first
    | exact False.elim o1
    | skip
  rename_i l
  refine ⟨?_, φ1, S1, l, [], s1, r1, .nil, OutO.of o1⟩
  unfold RepV at r1
  obtain ⟨q, rfl, h1, kd1⟩ := r1
  obtain ⟨vs, h2⟩ := kind_lst kd1
  exact .inl ⟨rfl, _, SqL.of h2⟩
theorem put_list {φ : List Addr} {H : Hp} {S : Sto} {Q : VK} {xs : List D} {vs : List V} {l : Nat} {q : Addr} {d : D} {v : V} (rs : RepS c H φ S) (hl : φ[l]? = some q) (hk : kindO (H q) = 1) (r : RepL c H φ xs vs) (rv : RepV c H φ d v)
    (o : OutO c H φ (RepV c) (some (d, S.set l xs)) Q) : Q v (upd H q (.lst vs)) := by
  obtain ⟨s2, e2⟩ := rs.write hl hk r
  exact o φ _ v e2 s2 (RepV.ext rs.ls e2 _ _ rv)
def mAppend (l : Nat) (ds : List D) (S : Sto) : Option (D × Sto) := match ds with
  | [d] => (S[l]?).bind fun xs => if xs.length < most then some (.non, S.set l (xs ++ [d])) else none
  | _ => none
theorem md_append : MtD X c "list.append" mAppend := fun kk => by
  refine MtR.imp mt_append fun v vs H Q ⟨φ, S, l, ds, rs, r0, r, o⟩ => ?_
  unfold mAppend at o
  split at o
  · obtain ⟨w, rfl, rw⟩ := r.one
    cases q : S[l]? with
    | none => rw [q] at o; exact o.elim
    | some xs =>
      rw [q, Option.bind_some] at o
      by_cases hz : xs.length < most
      · rw [if_pos hz] at o
        obtain ⟨q', us, rfl, k0, k1, k2⟩ := lst_at rs r0 q
        exact ⟨q', us, w, rfl, rfl, k1, by rw [← k2.length]; exact most_lt hz, put_list rs k0 (by rw [k1]; rfl) (k2.append (.cons rw .nil)) rep_non o⟩
      · rw [if_neg hz] at o
        exact o.elim
  · exact o.elim
def mPopAt (l : Nat) (ds : List D) (S : Sto) : Option (D × Sto) := match ds with
  | [.int i] => if i < 1000000 ∧ -1000000 < i then (S[l]?).bind fun xs => (ixN xs.length i).bind fun k => (xs[k]?).map fun d => (d, S.set l (xs.eraseIdx k)) else none
  | _ => none
theorem md_popAt : MtD X c "list.pop" mPopAt := fun kk => by
  refine MtR.imp mt_popAt fun v vs H Q ⟨φ, S, l, ds, rs, r0, r, o⟩ => ?_
  unfold mPopAt at o
  split at o
  · rename_i i
    obtain ⟨w, rfl, rw⟩ := r.one
    unfold RepV at rw
    subst rw
    by_cases hi : i < 1000000 ∧ -1000000 < i
    case neg => rw [if_neg hi] at o; exact o.elim
    rw [if_pos hi] at o
    cases q : S[l]? with
    | none => rw [q] at o; exact o.elim
    | some xs =>
      rw [q, Option.bind_some] at o
      cases qk : ixN xs.length i with
      | none => rw [qk] at o; exact o.elim
      | some k =>
        rw [qk, Option.bind_some] at o
        cases qd : xs[k]? with
        | none => rw [qd] at o; exact o.elim
        | some d =>
          rw [qd] at o
          obtain ⟨q', us, rfl, k0, k1, k2⟩ := lst_at rs r0 q
          obtain ⟨w, g1, g2⟩ := k2.get qd
          obtain ⟨e1, e2, e3, e4⟩ := ixN_seq qk
          have hl := k2.length
          exact ⟨q', us, i, k, w, rfl, rfl, k1, by omega, by omega, by rw [← hl]; exact e1, g1, put_list rs k0 (by rw [k1]; rfl) (k2.eraseIdx k) g2 o⟩
  · exact o.elim
end
end MP
end
section
set_option Elab.async false
set_option linter.all false
set_option maxRecDepth 100000
set_option maxHeartbeats 400000
/-! MP7: stores into lists, in, += ; an error's fields; defs called where an error is handled. -/
namespace MP
open PySem PySem.Spec PyProof.Rows L2

section
variable {X : Cx} {c : Cz} {W : WX} {a b d : Expr} {ea eb ed : Ev} {pos : Pos} {es : List Expr} {ra : EvA} {x : Str} {p : Pos}
/-! o[i] = v -/
def gSet : D → D → D → Sto → Option Sto := fun o i v S => match o, i with
  | .lst l, .int k => (S[l]?).bind fun xs => (ixN xs.length k).map fun j => S.set l (xs.set j v)
  | _, _ => none
theorem sd_list : SetD X c gSet := fun kk => by
  intro pins s σ H o i v ov iv u Q I ro ri rv ⟨φ, S, a, k, d, rs, r1, r2, r3, S', e, q⟩
  refine set_list pins s σ H o i v ov iv u Q I ro ri rv ?_
  cases a <;> first
    | (cases e; done)
    | skip
  rename_i l
  cases k <;> first
    | (cases e; done)
    | skip
  rename_i k
  have e : (S[l]?).bind (fun xs => (ixN xs.length k).map fun j => S.set l (xs.set j d)) = some S' := e
  cases q0 : S[l]? with
  | none => rw [q0] at e; cases e
  | some xs =>
    rw [q0, Option.bind_some] at e
    cases qj : ixN xs.length k with
    | none => rw [qj] at e; cases e
    | some j =>
      rw [qj] at e
      cases e
      obtain ⟨a, us, rfl, k0, k1, k2⟩ := lst_at rs r1 q0
      unfold RepV at r2
      subst r2
      obtain ⟨s2, e2⟩ := rs.write k0 (by rw [k1]; rfl) (k2.set j r3)
      exact ⟨a, us, k, j, rfl, rfl, k1, by rw [← k2.length]; exact qj, q _ e2 s2⟩
/-! x += y -/
theorem id_add : IpD X c .Add (dI0 fun i j => .int (i + j)) := fun kk => by
  intro pins s σ H x y v u Q I rx ry ⟨φ, S, d, e, rs, r1, r2, o⟩
  refine ip_add pins s σ H x y v u Q I rx ry ?_
  cases d <;> cases e <;> first
    | exact False.elim o
    | skip
  rename_i i j
  unfold RepV at r1 r2
  exact ⟨i, j, r1, r2, o φ H _ (.refl _ _) rs rep_int⟩
/-! in, not in, index, among flat things -/
def flatD : D → Option V
  | .non => some .non
  | .bl k => some (.bl k)
  | .int i => some (.int i)
  | .str z => some (.str z)
  | _ => none
def flatL : List D → Option (List V)
  | [] => some []
  | d :: ds => (flatD d).bind fun v => (flatL ds).map fun vs => v :: vs
theorem flatD_rep {d : D} {v w : V} {H : Hp} {φ : List Addr} (r : RepV c H φ d v) (e : flatD d = some w) : v = w ∧ flatV w = true := by
  cases d <;> first
    | (cases e; done)
    | (cases e
       unfold RepV at r
       exact ⟨r, rfl⟩)
theorem flatL_rep {H : Hp} {φ : List Addr} : ∀ {ds : List D} {vs ws : List V}, RepL c H φ ds vs → flatL ds = some ws → vs = ws ∧ ws.all flatV = true
  | [], vs, ws, r, e => by
    unfold RepL at r
    cases e
    exact ⟨r, rfl⟩
  | d :: ds, vs, ws, r, e => by
    unfold RepL at r
    obtain ⟨v, vr, rfl, r1, r2⟩ := r
    unfold flatL at e
    cases q1 : flatD d with
    | none => rw [q1] at e; cases e
    | some w =>
      cases q2 : flatL ds with
      | none => rw [q1, q2] at e; cases e
      | some wr =>
        rw [q1, q2] at e
        cases e
        obtain ⟨h1, h2⟩ := flatD_rep r1 q1
        obtain ⟨h3, h4⟩ := flatL_rep r2 q2
        exact ⟨by rw [h1, h3], by simp [h2, h4]⟩
def dIn : Op2 := fun d e S => (itemsOf e S).bind fun xs => (flatD d).bind fun v => (flatL xs).map fun vs => (.bl (inV v vs), S)
def dNotIn : Op2 := fun d e S => (itemsOf e S).bind fun xs => (flatD d).bind fun v => (flatL xs).map fun vs => (.bl (!inV v vs), S)
theorem in_read {neg : Bool} {K : PySem.W.Frag} {d e : D} {x y : V} {H : Hp} {φ : List Addr} {S : Sto} {Q : VK} (kk : c.K = K) (rs : RepS c H φ S) (r1 : RepV c H φ d x) (r2 : RepV c H φ e y)
    (o : OutO c H φ (RepV c) ((itemsOf e S).bind fun xs => (flatD d).bind fun v => (flatL xs).map fun vs => (D.bl (if neg = true then !inV v vs else inV v vs), S)) Q) : rIn K neg x y H Q := by
  cases q0 : itemsOf e S with
  | none => rw [q0] at o; exact o.elim
  | some xs =>
    rw [q0, Option.bind_some] at o
    cases q1 : flatD d with
    | none => rw [q1] at o; exact o.elim
    | some v =>
      rw [q1, Option.bind_some] at o
      cases q2 : flatL xs with
      | none => rw [q2] at o; exact o.elim
      | some vs =>
        rw [q2] at o
        obtain ⟨q, us, rfl, k1, k2⟩ := items_at rs r2 q0
        obtain ⟨h1, h2⟩ := flatD_rep r1 q1
        obtain ⟨h3, h4⟩ := flatL_rep k1 q2
        subst h1 h3
        refine ⟨q, us, rfl, ?_, h2, h4, o φ H _ (.refl _ _) rs rep_bl⟩
        rw [← kk]
        rcases k2 with ⟨_, k2⟩ | ⟨_, k2⟩
        · exact .inl k2
        · exact .inr k2.sq
theorem od_in : OpD X c (compareOp .In) dIn := fun kk => OpR.imp op_in_seq fun x y H Q ⟨φ, S, d, e, rs, r1, r2, o⟩ => in_read (neg := false) kk rs r1 r2 o
theorem od_notIn : OpD X c (compareOp .NotIn) dNotIn := fun kk => OpR.imp op_notIn_seq fun x y H Q ⟨φ, S, d, e, rs, r1, r2, o⟩ => in_read (neg := true) kk rs r1 r2 o
/-- the first place of a flat thing -/
def ixOf (v : V) : List V → Option Nat
  | [] => none
  | w :: ws => if eqV w v = true then some 0 else (ixOf v ws).map (· + 1)
theorem ixOf_some {v : V} : ∀ {ws : List V} {j : Nat}, ixOf v ws = some j → ∃ z, ws[j]? = some z ∧ eqV z v = true ∧ ∀ (m : Nat) (z' : V), m < j → ws[m]? = some z' → eqV z' v = false
  | [], j, h => by cases h
  | w :: ws, j, h => by
    unfold ixOf at h
    by_cases hw : eqV w v = true
    · rw [if_pos hw] at h
      cases h
      exact ⟨w, rfl, hw, fun m z' hm => by omega⟩
    · rw [if_neg hw] at h
      cases q : ixOf v ws with
      | none => rw [q] at h; cases h
      | some k =>
        rw [q] at h
        cases h
        obtain ⟨z, h1, h2, h3⟩ := ixOf_some q
        refine ⟨z, by simpa using h1, h2, fun m z' hm hz => ?_⟩
        cases m with
        | zero =>
          simp at hz
          subst hz
          exact Bool.eq_false_iff.mpr hw
        | succ m =>
          have hm : m + 1 < k + 1 := hm
          exact h3 m z' (by omega) (by simpa using hz)
def mIndex (l : Nat) (ds : List D) (S : Sto) : Option (D × Sto) := match ds with
  | [d] => (S[l]?).bind fun xs => (flatD d).bind fun v => (flatL xs).bind fun vs => (ixOf v vs).map fun j => (.int (j : Nat), S)
  | _ => none
theorem md_index : MtD X c "list.index" mIndex := fun kk => by
  refine MtR.imp mt_index fun v vs H Q ⟨φ, S, l, ds, rs, r0, r, o⟩ => ?_
  unfold mIndex at o
  split at o
  · rename_i d
    obtain ⟨w, rfl, rw'⟩ := r.one
    cases q : S[l]? with
    | none => rw [q] at o; exact o.elim
    | some xs =>
      rw [q, Option.bind_some] at o
      cases q1 : flatD d with
      | none => rw [q1] at o; exact o.elim
      | some v =>
        rw [q1, Option.bind_some] at o
        cases q2 : flatL xs with
        | none => rw [q2] at o; exact o.elim
        | some vs =>
          rw [q2, Option.bind_some] at o
          cases q3 : ixOf v vs with
          | none => rw [q3] at o; exact o.elim
          | some j =>
            rw [q3] at o
            obtain ⟨q', us, rfl, k0, k1, k2⟩ := lst_at rs r0 q
            obtain ⟨h1, h2⟩ := flatD_rep rw' q1
            obtain ⟨h3, h4⟩ := flatL_rep k2 q2
            subst h1 h3
            obtain ⟨z, g1, g2, g3⟩ := ixOf_some q3
            exact ⟨q', us, w, j, z, rfl, rfl, SqL.of k1, h2, h4, g1, g2, g3, o φ H _ (.refl _ _) rs rep_int⟩
  · exact o.elim
def mInsert (l : Nat) (ds : List D) (S : Sto) : Option (D × Sto) := match ds with
  | [.int i, d] => (S[l]?).bind fun xs => if xs.length < most ∧ 0 ≤ i ∧ i < 1000000 then some (.non, S.set l (xs.take i.toNat ++ [d] ++ xs.drop i.toNat)) else none
  | _ => none
theorem md_insert : MtD X c "list.insert" mInsert := fun kk => by
  refine MtR.imp mt_insert fun v vs H Q ⟨φ, S, l, ds, rs, r0, r, o⟩ => ?_
  unfold mInsert at o
  split at o
  · rename_i i d
    obtain ⟨w1, w2, rfl, r1, r2⟩ := r.two
    unfold RepV at r1
    subst r1
    cases q : S[l]? with
    | none => rw [q] at o; exact o.elim
    | some xs =>
      rw [q, Option.bind_some] at o
      by_cases hz : xs.length < most ∧ 0 ≤ i ∧ i < 1000000
      · rw [if_pos hz] at o
        obtain ⟨q', us, rfl, k0, k1, k2⟩ := lst_at rs r0 q
        exact ⟨q', us, i, w2, rfl, rfl, k1, by rw [← k2.length]; exact most_lt hz.1, hz.2.1, by omega, put_list rs k0 (by rw [k1]; rfl) (((k2.take _).append (.cons r2 .nil)).append (k2.drop _)) rep_non o⟩
      · rw [if_neg hz] at o
        exact o.elim
  · exact o.elim
def mExtend (l : Nat) (ds : List D) (S : Sto) : Option (D × Sto) := match ds with
  | [.lst m] => (S[l]?).bind fun xs => (S[m]?).bind fun ys => if xs.length + ys.length ≤ most then some (.non, S.set l (xs ++ ys)) else none
  | _ => none
theorem md_extend : MtD X c "list.extend" mExtend := fun kk => by
  refine MtR.imp mt_extend fun v vs H Q ⟨φ, S, l, ds, rs, r0, r, o⟩ => ?_
  unfold mExtend at o
  split at o
  · rename_i m
    obtain ⟨w, rfl, rw'⟩ := r.one
    cases q : S[l]? with
    | none => rw [q] at o; exact o.elim
    | some xs =>
      rw [q, Option.bind_some] at o
      cases q2 : S[m]? with
      | none => rw [q2] at o; exact o.elim
      | some ys =>
        rw [q2, Option.bind_some] at o
        by_cases hz : xs.length + ys.length ≤ most
        · rw [if_pos hz] at o
          obtain ⟨q', us, rfl, k0, k1, k2⟩ := lst_at rs r0 q
          obtain ⟨q'', ws, rfl, k3, k4, k5⟩ := lst_at rs rw' q2
          exact ⟨q', q'', us, ws, rfl, rfl, k1, k4, by rw [← k2.length, ← k5.length]; exact most_le hz, put_list rs k0 (by rw [k1]; rfl) (k2.append k5) rep_non o⟩
        · rw [if_neg hz] at o
          exact o.elim
  · exact o.elim

/-! ### an error's field, in the suite -/
def fieldOf (f : Str) : List Str → List D → Option D
  | n :: ns, d :: ds => if f == n then some d else fieldOf f ns ds
  | _, _ => none
def eXf (n f : Str) (e : Ev) : Ev := fun ρ S => (e ρ S).bind fun d S1 => match d with
  | .exn m ns ds => if m = n then (match fieldOf f ns ds with
    | some d => .ok d S1
    | none => .stuck) else .stuck
  | _ => .stuck
theorem fieldOf_at {f : Str} {H : Hp} {φ : List Addr} : ∀ {ns : List Str} {ds : List D} {vs : List V} {d : D}, ns.length = vs.length → RepL c H φ ds vs → fieldOf f ns ds = some d → ∃ v, (ns.zip vs).lookup f = some v ∧ RepV c H φ d v
  | [], ds, vs, d, hl, r, e => by unfold fieldOf at e; cases e
  | n :: ns, [], vs, d, hl, r, e => by unfold fieldOf at e; cases e
  | n :: ns, d0 :: ds, vs, d, hl, r, e => by
    unfold RepL at r
    obtain ⟨v, vr, rfl, r1, r2⟩ := r
    unfold fieldOf at e
    show ∃ w, List.lookup f ((n, v) :: ns.zip vr) = some w ∧ _
    by_cases hf : (f == n) = true
    · rw [if_pos hf] at e
      cases e
      exact ⟨v, by simp [List.lookup, hf], r1⟩
    · rw [if_neg hf] at e
      obtain ⟨w, h1, h2⟩ := fieldOf_at (by simpa using hl) r2 e
      refine ⟨w, ?_, h2⟩
      have hf' : (f == n) = false := by simpa using hf
      simp only [List.lookup, hf', h1]
theorem me_xf {Y : Cx} {ad C dx : Addr} {oe : Obj} {cls : Value} {pn : List (Addr × Obj)} {n f : Str} {e : Expr} {ee : Ev} (T : XfC Y.K C) (hm : Y.mg n = some (.ref C)) (hno : PySem.W.findIn Y.K (.ref C) f = some none)
    (hz : Zc cls (some dx) oe) (hf : ∃ vs, oe.data = .fields vs) (he : ME (Y.suite ad ((ad, oe) :: pn)) (c.hot ad cls dx) W e ee) (hb : attributeBase e f Y.env (eval e Y.env) = eval e Y.env := by rfl) :
    ME (Y.suite ad ((ad, oe) :: pn)) (c.hot ad cls dx) W (.Attribute e f pos) (eXf n f ee) := fun s => by
  refine PE.imp (pe_xf T hno hz hf (he s) hb) fun σ H Q ⟨φ, ρ, S, re, rs, o⟩ => ?_
  refine ⟨φ, ρ, S, re, rs, Out.bind o fun x S1 φ1 H1 v e1 s1 r1 o1 => ?_⟩
  cases x <;> first
    | exact False.elim o1
    | skip
  rename_i m ns ds
  unfold RepV at r1
  obtain ⟨a', cls', d', vs, rfl, hx, hmg, hd, hl, rl⟩ := r1
  cases hx
  by_cases hn : m = n
  · subst hn
    simp only [if_true] at o1
    have hcls : cls = .ref C := by
      have h2 : Y.mg m = some cls := by rw [← s.mm]; exact hmg
      rw [hm] at h2
      exact (Option.some.inj h2).symm
    cases q : fieldOf f ns ds with
    | none => simp only [q] at o1; exact o1.elim
    | some dd =>
      simp only [q] at o1
      obtain ⟨w, k1, k2⟩ := fieldOf_at hl rl q
      exact ⟨rfl, hcls, dx, _, w, rfl, hd, k1, o1 φ1 H1 _ (.refl _ _) s1 k2⟩
  · simp only [if_neg hn] at o1
    exact o1.elim

/-! ### a def that raises nothing, called where an error is handled -/
structure RoomC (k : Nat) (A : Around) : Prop where
  dp : A.depth + 3 * k + 5 < recursionLimit
  un : A.units + 16 * k + 200 < cLine
theorem RoomC.mono {j k : Nat} {A : Around} (r : RoomC k A) (h : j ≤ k) : RoomC j A := ⟨by have := r.dp; omega, by have := r.un; omega⟩
theorem RoomC.into {k : Nat} {A : Around} (r : RoomC (k + 1) A) (env : PySem.Env) : RoomC k (A.deeper env) := by
  have d := r.dp
  have u := r.un
  constructor
  · show A.depth + 1 + 3 * k + 5 < recursionLimit
    omega
  · show A.units + 3 + 16 * k + 200 < cLine
    omega
theorem Room.hot {k : Nat} {A : Around} (r : Room k A) (v : Option Value) : RoomC k (A.mark v) := ⟨r.dp, r.un⟩
theorem RoomC.u64 {k : Nat} {A : Around} (r : RoomC k A) : A.units + 64 < cLine := by have := r.un; omega
theorem Room.u64 {k : Nat} {A : Around} (r : Room k A) : A.units + 64 < cLine := by have := r.un; omega
/-- as FnOk, whatever is handled; no error leaves -/
structure FnC (P : Program) (w : World) (K : PySem.W.Frag) (mg : Str → Option Value) (base : Heap) (k : Nat) (f : Addr) (fd : FuncData) (ps : List Str) (sp : Sp) : Prop where
  len : ∀ vs H Q E, sp vs H Q E → vs.length = ps.length
  run : ∀ (A : Around) (outer : List PySem.Env) (s : Shared) (H : Hp) (args : Args) (us : List Value) (vs : List V) (Q : VK), RoomC k A → Env0 P w K mg base A outer s H → BindsTo s fd args (ps.zip us) → Vals vs us → sp vs H Q E0 →
    codeAny (model P w) A (.call (.ref f) args) (CR CX0 outer P w H s Q E0) s
def cxC (P : Program) (w : World) (K : PySem.W.Frag) (mg : Str → Option Value) (base : Heap) (N : List Str) (qual : Str) (scope : Scope) (f : Addr) (cd : Value) (A : Around) (outer : List PySem.Env) (s : Shared) (H : Hp) : Cx :=
  { cxOf CX0 P w K mg base N qual scope f cd A outer s H E0 with calm := false, xe := fun _ _ => False }
/-- A without what is handled -/
def cool (A : Around) : Around := { A with handled := none }
theorem inv_startC {P : Program} {w : World} {K : PySem.W.Frag} {mg : Str → Option Value} {base : Heap} {N ps : List Str} {qual : Str} {scope : Scope} {f : Addr} {cd : Value} {A : Around} {outer : List PySem.Env} {s s1 : Shared} {H : Hp} {us : List Value} {vs : List V}
    (S : FnScope N ps scope) (e0 : Env0 P w K mg base A outer s H) (hl : vs.length = ps.length) (r : Vals vs us)
    (x : InCallC s s.heap.objs.size (bindL (envOfC qual scope s.heap.objs.size f cd).kindOf (ps.zip us) fun _ => none) (cellsFrom (s.heap.objs.size + 1) scope.names []) (bindC (envOfC qual scope s.heap.objs.size f cd).kindOf (ps.zip us) fun _ => none) s1) :
    Inv (cxC P w K mg base N qual scope f cd A outer s H) [] (L2.start N vs) H s1 := by
  have e1 : Env0 P w K mg base (cool A) outer s H := ⟨e0.frames, e0.mod, e0.bs, e0.bsz, e0.funs, e0.frf, e0.hok, e0.bare⟩
  have J : Inv (cxOf CX0 P w K mg base N qual scope f cd (cool A) outer s H E0) [] (L2.start N vs) H s1 := inv_start S rfl e1 hl r x
  have fr : (cxC P w K mg base N qual scope f cd A outer s H).A.frames = some (envOfC qual scope s.heap.objs.size f cd :: outer) := Around.frames_deeper e0.frames
  have ok := J.ok
  exact ⟨⟨ok.mod, ok.kind, ok.glob, ok.blt, ok.above, ok.inj, ok.has, ok.cab, (fun z => Bool.noConfusion (show false = true from z)), fr, ok.stk, ok.exf, ok.bs, ok.bsz, ok.noex, ok.exfs, ok.funs, ok.frf⟩, J.os, J.bare, J.base, J.loc, J.cell, J.free, J.freeC, J.pin, J.hok, J.len⟩
theorem fn_ofC {P : Program} {w : World} {K : PySem.W.Frag} {mg : Str → Option Value} {base : Heap} {k : Nat} {f : Addr} {name qual : Str} {params : Arguments} {body : List Stmt} {scope : Scope} {dV kV doc pm cdv ct oc : Value} {an od : Option Addr}
    {osl : Array (Option Value)} {N ps : List Str} {sp : Sp} (lk : K.lookup f = some ⟨oc, od, .func (PySem.W.fnOf name qual params body scope dV kV doc pm an cdv ct), osl⟩) (hcd : PySem.W.codeIn K cdv qual = true) (S : FnScope N ps scope)
    (len : ∀ vs H Q E, sp vs H Q E → vs.length = ps.length)
    (hbody : ∀ (A : Around) (outer : List PySem.Env) (s : Shared) (H : Hp) (vs : List V) (Q : VK), RoomC k (A.deeper (envOfC qual scope s.heap.objs.size f cdv)) → sp vs H Q E0 →
      ∃ t, PSs (cxC P w K mg base N qual scope f cdv A outer s H) body t ∧ t { nx := fun _ H' => Q .non H', rt := Q } (L2.start N vs) H) :
    FnC P w K mg base (k + 1) f (PySem.W.fnOf name qual params body scope dV kV doc pm an cdv ct) ps sp := by
  constructor
  · exact len
  intro A outer s H args us vs Q hr e0 hb r hsp
  have hl := len _ _ _ _ hsp
  have stays : ∀ b o, base.get? b = some o → s.heap.get? b = some o := fun b o e => (e0.bs b o e).1
  have KX : K.In s.heap := e0.mod.kin.keeps stays
  have kinds : ∀ y ∈ ps.zip us, scope.names.lookup y.1 = some .local ∨ (scope.names.lookup y.1 = some .cell ∧ ((cellsFrom (s.heap.objs.size + 1) scope.names []).lookup y.1).isSome = true) := by
    rintro ⟨n, v⟩ hy
    exact (S.par n (List.of_mem_zip hy).1).imp id fun q => ⟨q, PySem.W.cellsFrom_some _ _ _ (.inl q)⟩
  have dpt : A.depth < recursionLimit := by have := hr.dp; omega
  refine codeAny_call_function dpt (KX _ _ lk) rfl S.co S.gen rfl (PySem.W.codeRec_of KX hcd) (hb _ _ _ _ (wpAny_newFunctionEnv_cells S.kind kinds fun env he s1 x => ?_))
  subst he
  refine ⟨(e0.mod.nolimit.keeps stays).keeps x.toInCall.keep, codeAny_func ?_⟩
  obtain ⟨t, ht, hq⟩ := hbody A outer s H vs Q (hr.into _) hsp
  have I := inv_startC (P := P) (w := w) (K := K) (mg := mg) (base := base) (A := A) (H := H) S e0 hl r x
  refine wpAny_mono (ht.run [] s1 (L2.start N vs) H _ I hq) (fun fl s' hs => ?_) fun e s' hs => False.elim hs
  cases fl with
  | ret u =>
    obtain ⟨v, σ', H', J, rv, q⟩ := hs
    exact ⟨v, H', J.os, J.bare, J.base, J.hok, rv, q⟩
  | next =>
    obtain ⟨σ', H', J, q⟩ := hs
    exact ⟨V.non, H', J.os, J.bare, J.base, J.hok, rfl, q⟩
  | brk =>
    obtain ⟨_, _, _, q⟩ := hs
    exact q.elim
  | cont =>
    obtain ⟨_, _, _, q⟩ := hs
    exact q.elim
theorem def_okC {P : Program} {w : World} {K : PySem.W.Frag} {mg : Str → Option Value} {base : Heap} {x qual : Str} {st : Stmt} {f : Addr} {fd : FuncData} {N ps : List Str} {k : Nat} {ev : Es} (c : Cz) (hcK : c.K = K) (hcm : c.mg = mg) (F : Fun K x qual st f fd) (S : FnScope N ps (defScope st))
    (hb : ∀ (cdv : Value) (A : Around) (outer : List PySem.Env) (s : Shared) (H : Hp), RoomC k (A.deeper (envOfC qual (defScope st) s.heap.objs.size f cdv)) → MSs (cxC P w K mg base N qual (defScope st) f cdv A outer s H) c W0 (defBody st) ev) :
    FnC P w K mg base (k + 1) f fd ps (spEv c ps.length (runDef N.length ev)) := by
  obtain ⟨oc, od, kV, doc, pm, an, cdv, ct, osl, rfl, lk, hcd⟩ := F.ex
  refine fn_ofC lk hcd S (fun vs H Q E h => h.1) fun A outer s H vs Q hr h => ?_
  refine ⟨_, hb cdv A outer s H hr ⟨hcK, hcm, takes0, PassesOwn.never, S.nd⟩, ?_⟩
  obtain ⟨_, φ, ds, S0, r, rs, o⟩ := h
  refine ⟨φ, begins N.length ds, S0, begins_rep r, rs, ?_⟩
  have o : Out c H φ (RepV c) (flowRes (ev (begins N.length ds) S0)) Q E0 := o
  revert o
  cases ev (begins N.length ds) S0 with
  | next ρ S => intro o φ' H' σ' e s r; exact o φ' H' .non e s rep_non
  | brk ρ S => intro o; exact o.elim
  | cont ρ S => intro o; exact o.elim
  | ret d S => intro o φ' H' v e s r; exact o φ' H' v e s r
  | exc n ns ds ρ S => intro o φ' H' σ' cls dx vs e s r m1 m2 m3 m4; exact o φ' H' cls dx vs e s m1 m2 m3 m4
  | stuck => intro o; exact o.elim
theorem me_callC {k : Nat} {f : Addr} {fd : FuncData} {ps : List Str} {rf : List D → Sto → Res D} (F : FnC X.prog X.w X.K X.mg X.base k f fd ps (spEv c ps.length rf)) (hr : RoomC k X.A) (hm : X.mg x = some (.ref f)) (hk : PySem.W.keepIn X.K (.ref f) = true) (hb : Binds X.K fd ps []) (ha : MA X c W0 (a :: es) ra) (hg : Gl X x := by rfl)
    (hdb : (x == ("__debug__" : Str)) = false := by decide) (he : starEach (a :: es) X.env = (false, eval a X.env) :: starEach es X.env := by rfl) (hpl : (backTo pos (starEach es X.env)).any (·.1) = false := by rfl) :
    ME X c W0 (.Call (.Name x p) (a :: es) [] pos) (eCall ps.length rf ra) := fun s => by
  constructor
  intro pins s0 σ H Q I ⟨φ, ρ, S, re, rs, o⟩
  apply wpAny_Call_Name_kw (ld_glob I hg hm ?_ hdb)
  apply PySem.W.callWith_K (h₀ := X.base) I.ok.mod.kin hk (thn ((ha s).run pos pins s0 σ H (fun vs H1 => spEv c ps.length rf vs H1 Q E0) I ?_) ?_) he hpl
  · refine ⟨φ, ρ, S, re, rs, Out.bind o fun xs S1 φ1 H1 vs e1 s1 r1 o1 => ?_⟩
    split at o1
    · rename_i hl
      exact ⟨by rw [← r1.length]; exact hl, φ1, xs, S1, r1, s1, o1⟩
    · exact o1.elim
  · rintro us s1 ⟨vs, H1, I1, r, q⟩
    refine ⟨I1.kIn, ?_⟩
    have hl : us.length = ps.length := by rw [← r.length]; exact F.len _ _ _ _ q
    have bnd := hb s1 us I1.kIn (by rw [List.append_nil]; exact hl)
    rw [List.append_nil] at bnd
    apply wpAny_call
    apply codeAny_mono (F.run X.A X.stack s1 H1 ⟨us, []⟩ us vs Q hr I1.env0 bnd r q)
    intro res s' hq
    match res, hq with
    | .ok (.ret _), hq => exact I1.after hq
    | .error e, hq => exact hq.elim
end
end MP
end
section
set_option Elab.async false
set_option linter.all false
set_option maxRecDepth 100000
set_option maxHeartbeats 400000
/-! MP8: defs by their names; the errors' classes; the law's end. -/
namespace MP
open PySem PySem.Spec PyProof.Rows L2

/-- a def of the text at its name -/
structure OkD (P : Program) (w : World) (K : PySem.W.Frag) (mg : Str → Option Value) (base : Heap) (k : Nat) (x : Str) (st : Stmt) (ps : List Str) (rf : List D → Sto → Res D) : Prop where
  gm : mg x = some (.ref (He.ga K x))
  ex : ∃ fd, Fun K x x st (He.ga K x) fd ∧ FnOk P w K mg base (L2.CX P w) k (He.ga K x) fd ps (spEv ⟨K, mg, none⟩ ps.length rf) ∧ Binds K fd ps []
/-- .. called where an error is handled -/
structure OkC (P : Program) (w : World) (K : PySem.W.Frag) (mg : Str → Option Value) (base : Heap) (k : Nat) (x : Str) (st : Stmt) (ps : List Str) (rf : List D → Sto → Res D) : Prop where
  gm : mg x = some (.ref (He.ga K x))
  ex : ∃ fd, Fun K x x st (He.ga K x) fd ∧ (∀ xc, FnC P w K mg base k (He.ga K x) fd ps (spEv ⟨K, mg, xc⟩ ps.length rf)) ∧ Binds K fd ps []
section
variable {P : Program} {w : World} {K : PySem.W.Frag} {mg : Str → Option Value} {base : Heap} {k : Nat} {x : Str} {st : Stmt} {N ps : List Str} {ev : Es} {rf : List D → Sto → Res D}
abbrev BindOk (x : Str) (st : Stmt) (ps : List Str) : Prop :=
  ∀ (kV doc pm : Value) (an : Option Addr) (cdv ct : Value) (us : List Value), us.length = ps.length → bindArgs (PySem.W.fnOf x x (defArgs st) (defBody st) (defScope st) .none kV doc pm an cdv ct) ⟨us, []⟩ = pure (ps.zip us)
theorem okd (hg : mg x = some (.ref (He.ga K x))) (F : ∃ fd, Fun K x x st (He.ga K x) fd) (S : FnScope N ps (defScope st)) (hbind : BindOk x st ps)
    (hb : ∀ (cdv : Value) (A : Around) (outer : List PySem.Env) (s : Shared) (H : Hp) (E : XK), Room k (A.deeper (envOfC x (defScope st) s.heap.objs.size (He.ga K x) cdv)) →
      MSs (cxOf (L2.CX P w) P w K mg base N x (defScope st) (He.ga K x) cdv A outer s H E) ⟨K, mg, none⟩ (fun cls d _ H => E cls d H) (defBody st) ev) : OkD P w K mg base (k + 1) x st ps (runDef N.length ev) := by
  obtain ⟨fd, F⟩ := F
  exact ⟨hg, fd, F, def_ok ⟨K, mg, none⟩ rfl rfl F S hb, F.binds hbind⟩
theorem okc (hg : mg x = some (.ref (He.ga K x))) (F : ∃ fd, Fun K x x st (He.ga K x) fd) (S : FnScope N ps (defScope st)) (hbind : BindOk x st ps)
    (hb : ∀ (xc : Option (Addr × Value × Addr)) (cdv : Value) (A : Around) (outer : List PySem.Env) (s : Shared) (H : Hp), RoomC k (A.deeper (envOfC x (defScope st) s.heap.objs.size (He.ga K x) cdv)) →
      MSs (cxC P w K mg base N x (defScope st) (He.ga K x) cdv A outer s H) ⟨K, mg, xc⟩ W0 (defBody st) ev) : OkC P w K mg base (k + 1) x st ps (runDef N.length ev) := by
  obtain ⟨fd, F⟩ := F
  exact ⟨hg, fd, F, fun xc => def_okC ⟨K, mg, xc⟩ rfl rfl F S (hb xc), F.binds hbind⟩
/-- a def whose run is nowhere told -/
theorem okd_stuck (hg : mg x = some (.ref (He.ga K x))) (F : ∃ fd, Fun K x x st (He.ga K x) fd) (hbind : BindOk x st ps) : OkD P w K mg base k x st ps (fun _ _ => .stuck) := by
  obtain ⟨fd, F⟩ := F
  exact ⟨hg, fd, F, ⟨fun vs H Q E h => h.1, fun A outer s H args us vs Q E hr e0 hb r h => by
    obtain ⟨_, φ, ds, S, _, _, o⟩ := h
    exact o.elim⟩, F.binds hbind⟩
theorem OkD.up {j : Nat} (h : OkD P w K mg base j x st ps rf) (hjk : j ≤ k) : OkD P w K mg base k x st ps rf := by
  obtain ⟨hg, fd, F, ok, bd⟩ := h
  exact ⟨hg, fd, F, ok.mono hjk, bd⟩
end
section
variable {X : Cx} {W : WX} {a b d : Expr} {pos : Pos} {es : List Expr} {ra rk : EvA} {x : Str} {p : Pos} {st : Stmt} {ps : List Str} {rf : List D → Sto → Res D} {k : Nat} {K : PySem.W.Frag} {mg : Str → Option Value}
theorem me_fn (T : OkD X.prog X.w X.K X.mg X.base k x st ps rf) (hr : Room k X.A) (ha : MA X ⟨X.K, X.mg, none⟩ W (a :: es) ra) (hg : Gl X x := by rfl)
    (hdb : (x == ("__debug__" : Str)) = false := by decide) (he : starEach (a :: es) X.env = (false, eval a X.env) :: starEach es X.env := by rfl) {n : Nat} (hpl : (backTo pos (starEach es X.env)).any (·.1) = false := by rfl) (hn : ps.length = n := by rfl) :
    ME X ⟨X.K, X.mg, none⟩ W (.Call (.Name x p) (a :: es) [] pos) (eCall n rf ra) := by
  subst hn
  obtain ⟨gm, fd, F, ok, bd⟩ := T
  exact me_call ok hr gm F.kp bd ha hg hdb he hpl
theorem me_fnC {xc : Option (Addr × Value × Addr)} (T : OkC X.prog X.w X.K X.mg X.base k x st ps rf) (hr : RoomC k X.A) (ha : MA X ⟨X.K, X.mg, xc⟩ W0 (a :: es) ra) (hg : Gl X x := by rfl)
    (hdb : (x == ("__debug__" : Str)) = false := by decide) (he : starEach (a :: es) X.env = (false, eval a X.env) :: starEach es X.env := by rfl) {n : Nat} (hpl : (backTo pos (starEach es X.env)).any (·.1) = false := by rfl) (hn : ps.length = n := by rfl) :
    ME X ⟨X.K, X.mg, xc⟩ W0 (.Call (.Name x p) (a :: es) [] pos) (eCall n rf ra) := by
  subst hn
  obtain ⟨gm, fd, F, ok, bd⟩ := T
  exact me_callC (ok xc) hr gm F.kp bd ha hg hdb he hpl
/-- keywords: pm puts the positional values and the keywords' values in the parameters' order -/
structure Perm (n m : Nat) (pm : {α : Type} → List α → List α → List α) : Prop where
  vals : ∀ {vs zs : List V} {us ws : List Value}, vs.length = n → zs.length = m → Vals vs us → Vals zs ws → Vals (pm vs zs) (pm us ws)
  rep : ∀ {c : Cz} {H : Hp} {φ : List Addr} {ds es : List D} {vs zs : List V}, vs.length = n → zs.length = m → RepL c H φ ds vs → RepL c H φ es zs → RepL c H φ (pm ds es) (pm vs zs)
abbrev KwOk (x : Str) (st : Stmt) (ps ks : List Str) (n : Nat) (pm : {α : Type} → List α → List α → List α) : Prop :=
  ∀ (kV doc pm' : Value) (an : Option Addr) (cdv ct : Value) (us ws : List Value), us.length = n → ws.length = ks.length → bindArgs (PySem.W.fnOf x x (defArgs st) (defBody st) (defScope st) .none kV doc pm' an cdv ct) ⟨us, ks.zip ws⟩ = pure (ps.zip (pm us ws))
theorem kwB_of {fd : FuncData} {f : Addr} {ks : List Str} {n : Nat} {pm : {α : Type} → List α → List α → List α} (F : Fun K x x st f fd) (hp : Perm n ks.length pm) (hk : KwOk x st ps ks n pm) : KwB K fd ps ks n pm pm pm := by
  obtain ⟨oc, od, kV, doc, pm', an, cdv, ct, osl, rfl, lk, hcd⟩ := F.ex
  exact ⟨fun s us ws h1 h2 => .of_eq (hk kV doc pm' an cdv ct us ws h1 h2), fun h1 h2 => hp.vals h1 h2, fun h1 h2 => hp.rep h1 h2⟩
theorem me_fnK {kws : List Keyword} {ks : List Str} {n : Nat} {pm : {α : Type} → List α → List α → List α} (T : OkD X.prog X.w X.K X.mg X.base k x st ps rf) (hr : Room k X.A) (hp : Perm n ks.length pm) (hkw : KwOk x st ps ks n pm)
    (ha : MA X ⟨X.K, X.mg, none⟩ W (a :: es) ra) (hk : MK X ⟨X.K, X.mg, none⟩ W kws rk) (hg : Gl X x := by rfl) (hall : (backToKw pos (keywordEach kws X.env)).all (·.1.isSome) = true := by rfl) (hks : (backToKw pos (keywordEach kws X.env)).filterMap (·.1) = ks := by rfl)
    (hdb : (x == ("__debug__" : Str)) = false := by decide) (he : starEach (a :: es) X.env = (false, eval a X.env) :: starEach es X.env := by rfl)
    (hpl : ((backTo pos (starEach (a :: es) X.env)).any (·.1) || (backToKw pos (keywordEach kws X.env)).any (·.1.isNone)) = false := by rfl) :
    ME X ⟨X.K, X.mg, none⟩ W (.Call (.Name x p) (a :: es) kws pos) (eKw n ks.length ps.length pm rf ra rk) := by
  obtain ⟨gm, fd, F, ok, bd⟩ := T
  exact me_callK ok hr gm F.kp (kwB_of F hp hkw) ha hk hg hall hks hdb he hpl
theorem me_fnK0 {kws : List Keyword} {ks : List Str} {pm : {α : Type} → List α → List α → List α} (T : OkD X.prog X.w X.K X.mg X.base k x st ps rf) (hr : Room k X.A) (hp : Perm 0 ks.length pm) (hkw : KwOk x st ps ks 0 pm)
    (hk : MK X ⟨X.K, X.mg, none⟩ W kws rk) (hg : Gl X x := by rfl) (hall : (backToKw pos (keywordEach kws X.env)).all (·.1.isSome) = true := by rfl) (hks : (backToKw pos (keywordEach kws X.env)).filterMap (·.1) = ks := by rfl)
    (hdb : (x == ("__debug__" : Str)) = false := by decide)
    (hpl : ((backTo pos (starEach [] X.env)).any (·.1) || (backToKw pos (keywordEach kws X.env)).any (·.1.isNone)) = false := by rfl) :
    ME X ⟨X.K, X.mg, none⟩ W (.Call (.Name x p) [] kws pos) (eKw 0 ks.length ps.length pm rf aNil rk) := by
  obtain ⟨gm, fd, F, ok, bd⟩ := T
  exact me_callK0 ok hr gm F.kp (kwB_of F hp hkw) hk hg hall hks hdb hpl
end
/-! usual orders -/
def pm01 {α : Type} (_ ws : List α) : List α := ws
def pm10 {α : Type} (_ ws : List α) : List α := match ws with
  | [b, a] => [a, b]
  | _ => []
theorem perm_01 {m : Nat} : Perm 0 m pm01 := ⟨fun _ _ _ r => r, fun _ _ _ r => r⟩
theorem perm_10 : Perm 0 2 pm10 where
  vals := fun {vs zs us ws} _ h2 _ r => by
    match zs, h2, r with
    | [b, a], _, .cons r1 (.cons r2 .nil) => exact .cons r2 (.cons r1 .nil)
  rep := fun {c H φ ds es vs zs} _ h2 _ r => by
    match zs, h2 with
    | [b, a], _ =>
      have hl := r.length
      match es, hl with
      | [e1, e2], _ =>
        obtain ⟨v, w, e, r1, r2⟩ := r.two
        cases e
        exact .cons r2 (.cons r1 .nil)

end MP
end
section
set_option Elab.async false
set_option linter.all false
set_option maxRecDepth 100000
set_option maxHeartbeats 400000
/-! MP9: the errors' classes; what the head tells; the law's end. -/
namespace MP
open PySem PySem.Spec PyProof.Rows L2

/-! ### what the head tells of an error's class -/
def clsB (K : PySem.W.Frag) (C : Addr) : Bool := match K.lookup C with
  | some ⟨.type "type", _, .cls cd, sl⟩ => (match cd.mro, sl.toList with
    | .ref C' :: bm, [_, _, _, _, some (.builtin n), _] => decide (C' = C) && (decide (n = "ValueError.__new__") && (!cd.hasDel && (cd.hasDict && PySem.HandSPX.refsVE bm)))
    | _, _ => false)
  | _ => false
theorem clsB_ok {K : PySem.W.Frag} {C : Addr} (h : clsB K C = true) : ∃ nm q N bs bm sn sub ab col dd k0 k1 k2 k3 k5, K.lookup C = some (excClassObj nm q C N bs bm true sn sub ab col dd k0 k1 k2 k3 k5 "ValueError.__new__") ∧ PySem.HandSPX.refsVE bm = true := by
  unfold clsB at h
  split at h
  · rename_i dd cd sl ho
    split at h
    · rename_i C' bm k0 k1 k2 k3 n k5 hm hs
      simp only [Bool.and_eq_true, decide_eq_true_eq, Bool.not_eq_true'] at h
      obtain ⟨rfl, rfl, hdel, hdct, hv⟩ := h
      obtain ⟨nm, bs, mro, ns, qn, hd, sn, sub, ab, col, del⟩ := cd
      dsimp only at hm hdel hdct
      subst hm hdel hdct
      have hsl : sl = #[k0, k1, k2, k3, some (.builtin "ValueError.__new__"), k5] := Array.toList_inj.mp (by rw [hs])
      subst hsl
      exact ⟨nm, qn, ns, bs, bm, sn, sub, ab, col, dd, k0, k1, k2, k3, k5, ho, hv⟩
    · cases h
  · cases h
def eqOO (a b : Option (Option Value)) : Bool := decide (a = b)
def errB (x : Str) (fs : List Str) (K : PySem.W.Frag) : Bool :=
  clsB K (He.ga K x) && (decide (PySem.W.findIn K (.ref (He.ga K x)) "__setattr__" = some (some (.builtin "object.__setattr__"))) && (decide (PySem.W.subIn K (.ref (He.ga K x)) (.type "BaseException") = some true) &&
  (decide (PySem.W.typeIn K (.ref (He.ga K x)) = some (.type "type")) && (PySem.W.keepIn K (.ref (He.ga K x)) && (decide (PySem.W.findIn K (.ref (He.ga K x)) "__init__" = some (some (.ref (He.ma K (He.ga K x) "__init__")))) &&
  (decide (PySem.W.typeIn K (.ref (He.ma K (He.ga K x) "__init__")) = some (.type "function")) && (xfB K (He.ga K x) && (fs.all (fun f => decide (PySem.W.findIn K (.ref (He.ga K x)) f = some none)) && decide (PySem.W.nsIn K mainGlobals x = some (some (.ref (He.ga K x))))))))))))
structure ErrK (K : PySem.W.Frag) (x : Str) (fs : List Str) : Prop where
  ox : OexC K (He.ga K x)
  iC : PySem.W.findIn K (.ref (He.ga K x)) "__init__" = some (some (.ref (He.ma K (He.ga K x) "__init__")))
  tI : PySem.W.typeIn K (.ref (He.ma K (He.ga K x) "__init__")) = some (.type "function")
  xf : XfC K (He.ga K x)
  no : ∀ f ∈ fs, PySem.W.findIn K (.ref (He.ga K x)) f = some none
  ns : PySem.W.nsIn K mainGlobals x = some (some (.ref (He.ga K x)))
theorem errB_ok {x : Str} {fs : List Str} {K : PySem.W.Frag} (h : errB x fs K = true) : ErrK K x fs := by
  unfold errB at h
  simp only [Bool.and_eq_true, decide_eq_true_eq, List.all_eq_true] at h
  obtain ⟨h1, h2, h3, h4, h5, h6, h7, h8, h9, h10⟩ := h
  exact ⟨⟨clsB_ok h1, h2, h3, h4, h5⟩, h6, h7, xfB_ok h8, h9, h10⟩
/-- an error of the text at its name -/
structure OkE (P : Program) (w : World) (K : PySem.W.Frag) (mg : Str → Option Value) (base : Heap) (x : Str) (fs : List Str) : Prop where
  gm : mg x = some (.ref (He.ga K x))
  er : ErrK K x fs
  ex : ∃ fd, FnOk P w K mg base CX0 1 (He.ma K (He.ga K x) "__init__") fd ("self" :: fs) (spIni (He.ga K x) fs) ∧ Binds K fd ("self" :: fs) []
section
variable {P : Program} {w : World} {K : PySem.W.Frag} {mg : Str → Option Value} {base : Heap} {x q : Str} {st : Stmt} {f : Addr} {fd : FuncData}
theorem vis_of {N ps : List Str} {sc : Scope} (S : FnScope N ps sc) {y : Str} (h : y ∈ ps) : Vis sc y := (S.par y h).imp id .inl
theorem ini2 {f1 f2 : Str} (F : Fun K "__init__" q st f fd) (S : FnScope ["self", f1, f2] ["self", f1, f2] (defScope st)) (E : ErrK K x [f1, f2])
    (hbd : ∃ a1 a2 a3 a4 b1 b2 b3 b4 : Pos, defBody st = [.Assign [.Attribute (.Name "self" a1) f1 a2] (.Name f1 a3) a4, .Assign [.Attribute (.Name "self" b1) f2 b2] (.Name f2 b3) b4])
    (d1 : (f1 == ("__debug__" : Str)) = false := by decide) (c1 : (f1 == ("__classdict__" : Str)) = false := by decide) (d2 : (f2 == ("__debug__" : Str)) = false := by decide) (c2 : (f2 == ("__classdict__" : Str)) = false := by decide) :
    FnOk P w K mg base CX0 1 f fd ["self", f1, f2] (spIni (He.ga K x) [f1, f2]) := by
  obtain ⟨a1, a2, a3, a4, b1, b2, b3, b4, hbd⟩ := hbd
  refine F.ok S (fun vs H Q E h => ?_) (fun cdv A outer s H vs Q E' hr h => ?_)
  · obtain ⟨a, ws, rfl, hl, _⟩ := h
    simp [hl]
  · obtain ⟨a, ws, rfl, hl, ha, k⟩ := h
    match ws, hl with
    | [v1, v2], _ =>
      rw [hbd]
      have vs0 : Vis (defScope st) "self" := vis_of S (by simp)
      have vs1 : Vis (defScope st) f1 := vis_of S (by simp)
      have vs2 : Vis (defScope st) f2 := vis_of S (by simp)
      refine ⟨_, pss_cons (ps_ost (pe_var (i := 0) rfl vs0) (pe_var (i := 1) rfl vs1 d1 c1)) (pss_one (ps_ost (pe_var (i := 0) rfl vs0) (pe_var (i := 2) rfl vs2 d2 c2))), ?_⟩
      refine ⟨v1, rfl, .ref a, rfl, a, He.ga K x, rfl, E.ox, E.no f1 (by simp), .inl ⟨ha, fun dx hdx hne => ?_⟩⟩
      refine ⟨v2, rfl, .ref a, rfl, a, He.ga K x, rfl, E.ox, E.no f2 (by simp), .inr ⟨dx, [(f1, v1)], upd_same, by rw [upd_ne hne]; exact upd_same, (by show 1 ≤ 900; decide), ?_⟩⟩
      refine k dx _ hdx hne ?_ upd_same fun b o hb e => ?_
      · rw [upd_ne (Ne.symm hne)]
        exact upd_same
      · rw [upd_ne (ne_of_none e hdx), upd_ne hb, upd_ne (ne_of_none e hdx)]
        exact e
theorem ini1 {f1 : Str} (F : Fun K "__init__" q st f fd) (S : FnScope ["self", f1] ["self", f1] (defScope st)) (E : ErrK K x [f1])
    (hbd : ∃ a1 a2 a3 a4 : Pos, defBody st = [.Assign [.Attribute (.Name "self" a1) f1 a2] (.Name f1 a3) a4])
    (d1 : (f1 == ("__debug__" : Str)) = false := by decide) (c1 : (f1 == ("__classdict__" : Str)) = false := by decide) :
    FnOk P w K mg base CX0 1 f fd ["self", f1] (spIni (He.ga K x) [f1]) := by
  obtain ⟨a1, a2, a3, a4, hbd⟩ := hbd
  refine F.ok S (fun vs H Q E h => ?_) (fun cdv A outer s H vs Q E' hr h => ?_)
  · obtain ⟨a, ws, rfl, hl, _⟩ := h
    simp [hl]
  · obtain ⟨a, ws, rfl, hl, ha, k⟩ := h
    match ws, hl with
    | [v1], _ =>
      rw [hbd]
      have vs0 : Vis (defScope st) "self" := vis_of S (by simp)
      have vs1 : Vis (defScope st) f1 := vis_of S (by simp)
      refine ⟨_, pss_one (ps_ost (pe_var (i := 0) rfl vs0) (pe_var (i := 1) rfl vs1 d1 c1)), ?_⟩
      refine ⟨v1, rfl, .ref a, rfl, a, He.ga K x, rfl, E.ox, E.no f1 (by simp), .inl ⟨ha, fun dx hdx hne => ?_⟩⟩
      refine k dx _ hdx hne upd_same ?_ fun b o hb e => ?_
      · rw [upd_ne hne]
        exact upd_same
      · rw [upd_ne hb, upd_ne (ne_of_none e hdx)]
        exact e
end
section
variable {X : Cx} {c : Cz} {W : WX} {a b d : Expr} {ea eb ed : Ev} {pos : Pos} {es : List Expr} {ra : EvA} {x : Str} {p cp : Pos}
theorem ms_err {fs : List Str} (T : OkE X.prog X.w X.K X.mg X.base x fs) (hr : Room 2 X.A) (ha : MA X c W (a :: es) ra) (hg : Gl X x := by rfl) (hc : X.calm = true := by rfl)
    (hdb : (x == ("__debug__" : Str)) = false := by decide) (he : starEach (a :: es) X.env = (false, eval a X.env) :: starEach es X.env := by rfl) (hpl : (backTo cp (starEach es X.env)).any (·.1) = false := by rfl) :
    MS X c W (.Raise (some (.Call (.Name x p) (a :: es) [] cp)) none pos) (sRaise x fs ra) := by
  obtain ⟨gm, er, fd, ok, bd⟩ := T
  exact ms_raise ⟨er.ox, gm, er.iC, er.tI, ok, bd⟩ hr ha hg hc hdb he hpl
end

/-- a handler of one class -/
def dec1 (x : Str) : Str → Option Bool := fun m => if m = x then some true else none
theorem dec1_ok {K : PySem.W.Frag} {mg : Str → Option Value} {x : Str} {C : Addr} (h : PySem.W.exmOne K (.ref C) (.ref C) = some true) (hg : mg x = some (.ref C)) :
    ∀ (m : Str) (b : Bool) (cls : Value), dec1 x m = some b → mg m = some cls → PySem.W.exmOne K cls (.ref C) = some b := fun m b cls e hm => by
  unfold dec1 at e
  split at e
  · rename_i hx
    subst hx
    cases e
    rw [hg] at hm
    cases hm
    exact h
  · cases e

/-! ### the head's facts -/
/-- a def without defaults -/
theorem fun_of {K : PySem.W.Frag} {x q : Str} {st : Stmt} {f : Addr} {fd : FuncData} (F : FunD K x q (defArgs st) (defBody st) (defScope st) [] [] f fd) : Fun K x q st f fd := by
  obtain ⟨⟨oc, od, dV, kV, doc, pm, an, cdv, ct, osl, e, lk, hcd, hD, hK⟩, kp⟩ := F
  rcases hD with ⟨_, rfl⟩ | ⟨h, _⟩
  · exact ⟨⟨oc, od, kV, doc, pm, an, cdv, ct, osl, e, lk, hcd⟩, kp⟩
  · exact absurd rfl h
def freeB (xs : List Str) (K : PySem.W.Frag) : Bool := xs.all fun x => decide (PySem.W.nsIn K mainGlobals x = some none)
def gloB (xs : List Str) (K : PySem.W.Frag) : Bool := xs.all fun x => decide (PySem.W.nsIn K mainGlobals x = some (some (.ref (He.ga K x))))
def bltB (xs : List (Str × String)) (K : PySem.W.Frag) : Bool := xs.all fun p => decide (PySem.W.nsIn K mainGlobals p.1 = some (some (.builtin p.2)))
def exmB (xs : List (Str × Str × Bool)) (K : PySem.W.Frag) : Bool := xs.all fun p => decide (PySem.W.exmOne K (.ref (He.ga K p.1)) (.ref (He.ga K p.2.1)) = some p.2.2)
theorem free_of {xs : List Str} {K : PySem.W.Frag} {h : Heap} {mg : Str → Option Value} (X : K.In h) (G : h.Ns mainGlobals mg) (c : freeB xs K = true) {x : Str} (hx : x ∈ xs) : mg x = none :=
  PySem.W.mg_none_of X G (of_decide_eq_true (List.all_eq_true.mp c x hx))
theorem glo_of {xs : List Str} {K : PySem.W.Frag} {h : Heap} {mg : Str → Option Value} (X : K.In h) (G : h.Ns mainGlobals mg) (c : gloB xs K = true) {x : Str} (hx : x ∈ xs) : mg x = some (.ref (He.ga K x)) :=
  PySem.W.mg_of X G (of_decide_eq_true (List.all_eq_true.mp c x hx))
theorem blt_of {xs : List (Str × String)} {K : PySem.W.Frag} {h : Heap} {mg : Str → Option Value} (X : K.In h) (G : h.Ns mainGlobals mg) (c : bltB xs K = true) {x : Str} {i : String} (hx : (x, i) ∈ xs) : mg x = some (.builtin i) :=
  PySem.W.mg_of X G (of_decide_eq_true (List.all_eq_true.mp c (x, i) hx))
theorem exm_of {xs : List (Str × Str × Bool)} {K : PySem.W.Frag} (c : exmB xs K = true) {x y : Str} {b : Bool} (hx : (x, y, b) ∈ xs) : PySem.W.exmOne K (.ref (He.ga K x)) (.ref (He.ga K y)) = some b :=
  of_decide_eq_true (List.all_eq_true.mp c (x, y, b) hx)
/-- the Hook: the defs, and one Bool of the part that is kept -/
abbrev AlM : Type := He.AlD × Bool
def partM (g : Addr → Option Obj) (n : Nat) : PySem.W.Frag := He.frG g (He.asD g n)
def obsM (n : Nat) (fn : List He.DefD) (ex : PySem.W.Frag → Bool) (g : Addr → Option Obj) : AlM := (He.obsD [] fn (partM g n), ex (partM g n))
structure SaysM (fn : List He.DefD) (ex : PySem.W.Frag → Bool) (K : PySem.W.Frag) : Prop where
  defs : He.SaysD [] fn K
  more : ex K = true
theorem saysM_of {n : Nat} {fn : List He.DefD} {ex : PySem.W.Frag → Bool} {g : Addr → Option Obj} (e : obsM n fn ex g = (He.valD fn, true)) : SaysM fn ex (partM g n) :=
  ⟨congrArg (fun z : AlM => z.1) e, congrArg (fun z : AlM => z.2) e⟩
def hookM (n : Nat) (fn : List He.DefD) (ex : PySem.W.Frag → Bool) : PySem.W.Hook where
  α := AlM
  obs := fun s => obsM n fn ex s.heap.get?
  val := fun _ => (He.valD fn, true)
  says := fun _ h => ∃ K : PySem.W.Frag, K.In h ∧ SaysM fn ex K
  of := fun _ _ e => ⟨_, He.frG_in, saysM_of e⟩
  keeps := fun _ _ _ ⟨K, hK, c⟩ k => ⟨K, PySem.W.Frag.In.keeps hK k, c⟩
theorem obsM_eq {n : Nat} {fn : List He.DefD} {ex : PySem.W.Frag → Bool} {g : Addr → Option Obj} {s : Shared} (h : ∀ a, g a = s.heap.get? a) : obsM n fn ex g = (hookM n fn ex).obs s := by
  have e : g = s.heap.get? := funext h
  rw [e]
  exact rfl
/-! ### the end -/
theorem frz_of {K : PySem.W.Frag} {H : Hp} {a : Addr} {xs : List V} (hO : Only H) (h : SqL K H a xs) : Frz K H a xs := by
  rcases h with (h | ⟨o, h⟩) | h
  · rcases hO a with e | ⟨o, ys, e⟩
    · rw [e] at h; cases h
    · rw [e] at h; cases h
  · exact .inl ⟨o, h⟩
  · exact .inr h
theorem ints_rep {c : Cz} {H : Hp} {φ : List Addr} : ∀ ns : List Int, RepL c H φ (ns.map D.int) (ns.map V.int)
  | [] => .nil
  | n :: ns => .cons rep_int (ints_rep ns)
/-- the law's promise, from what its function on data gives -/
theorem law_sp {K : PySem.W.Frag} {mg : Str → Option Value} {rf : List D → Sto → Res D} {ns : List Int} {H : Hp} {a : Addr} (hO : Only H) (hS : SqL K H a (ns.map V.int)) (h : ∃ S, rf [.frl (ns.map D.int)] [] = .ok (.bl true) S) :
    spEv ⟨K, mg, none⟩ 1 rf [.ref a] H (fun v _ => v = .bl true) fun _ _ _ => False := by
  obtain ⟨S, e⟩ := h
  refine ⟨rfl, [], [.frl (ns.map D.int)], [], .cons ?_ .nil, ⟨List.nodup_nil, rfl, fun l xs h => by simp at h⟩, ?_⟩
  · unfold RepV
    exact ⟨a, _, rfl, frz_of hO hS, ints_rep ns⟩
  · rw [e]
    intro φ' H' v _ _ r
    unfold RepV at r
    exact r
theorem walk_bits {l : PySem.W.OpenLaw} {n k : Nat} {q : Program} {loose : List Str} {XP : (Str → Option Value) → Heap → Prop} {YP : World → Heap → Prop} {d : DefRec} {x : Str}
    (hn : l.most = some n) (hn2 : n ≤ sizeLine) (hdf : d.params.defaults = []) (hr : Room k callerA)
    (F : ∀ (w : World) (mg : Str → Option Value) (fa : Addr) (h : Heap), YP w h → h.Ns mainGlobals mg → mg d.name = some (.ref fa) →
      ∃ (K : PySem.W.Frag) (fd : FuncData) (sp : Sp), K.In h ∧ (∀ (s : Shared) (u : Value), BindsTo s fd ⟨[u], []⟩ [(x, u)]) ∧
        (∀ (H : Hp) (a : Addr) (ns : List Int), ns.length ≤ n → (∀ z ∈ ns, Builtin.Int.intBits z ≤ 1048576) → Only H → SqL K H a (ns.map V.int) → sp [.ref a] H (fun v _ => v = .bl true) fun _ _ _ => False) ∧
        ∀ base : Heap, K.In base → base.Ns mainGlobals mg → FnOk l.prog w K mg base (L2.CX l.prog w) k fa fd [x] sp) :
    PySem.W.WalkO q loose XP YP l.row.toRowW d [] (fun f vs => PySem.call f vs) := by
  refine Att.attach_callB hn hdf fun w s₀ s₁ mg mb fa o pm cd doc a vs ns G Y ho hd hcd hmg hobj hints hlen hbits hg => ?_
  obtain ⟨K, fd, sp, KX, hb, hsp, hF⟩ := F w mg fa _ Y G.T.g hmg
  refine law_call KX G.T.g G.T.b G.T.builtins G.T.nolimit hg hobj hints (Nat.le_trans hlen hn2) hr hF hb (fun H hO hS => hsp H a ns hlen hbits hO hS) fun H e s' z => ?_
  obtain ⟨_, _, _, _, _, _, _, _, _, _, _, _, z⟩ := z
  exact z.elim
end MP
end
section
set_option Elab.async false
set_option linter.all false
set_option maxRecDepth 100000
set_option maxHeartbeats 400000
/-! MPC: contracts: a def's evaluator may be stood for by a simpler function, up to lists that are not kept and a new numbering. -/
namespace MP
open PySem PySem.Spec PyProof.Rows L2

mutual
def Below (n : Nat) : D → Prop
  | .lst l => l < n
  | .tup ds => BelowL n ds
  | .wk ds => BelowL n ds
  | .frl ds => BelowL n ds
  | .exn _ _ ds => BelowL n ds
  | .err _ _ ds => BelowL n ds
  | .dct l => l < n
  | .dtt l => l < n
  | .non => True
  | .bl _ => True
  | .int _ => True
  | .str _ => True
def BelowL (n : Nat) : List D → Prop
  | [] => True
  | d :: ds => Below n d ∧ BelowL n ds
end
/-! the new number of a list, in new and old data -/
mutual
def Rn (κ : List Nat) : D → D → Prop
  | .lst l, e => ∃ k, e = .lst k ∧ κ[l]? = some k
  | .tup ds, e => ∃ es, e = .tup es ∧ RnL κ ds es
  | .wk ds, e => ∃ es, e = .wk es ∧ RnL κ ds es
  | .frl ds, e => ∃ es, e = .frl es ∧ RnL κ ds es
  | .exn n ns ds, e => ∃ es, e = .exn n ns es ∧ RnL κ ds es
  | .err n ns ds, e => ∃ es, e = .err n ns es ∧ RnL κ ds es
  | .dct l, e => ∃ k, e = .dct k ∧ κ[l]? = some k
  | .dtt l, e => ∃ k, e = .dtt k ∧ κ[l]? = some k
  | .non, e => e = .non
  | .bl b, e => e = .bl b
  | .int i, e => e = .int i
  | .str x, e => e = .str x
def RnL (κ : List Nat) : List D → List D → Prop
  | [], es => es = []
  | d :: ds, es => ∃ e er, es = e :: er ∧ Rn κ d e ∧ RnL κ ds er
end
mutual
theorem Below.mono {n m : Nat} (h : n ≤ m) : ∀ d : D, Below n d → Below m d
  | .lst l, q => by unfold Below at q ⊢; omega
  | .tup ds, q => by unfold Below at q ⊢; exact BelowL.mono h ds q
  | .wk ds, q => by unfold Below at q ⊢; exact BelowL.mono h ds q
  | .frl ds, q => by unfold Below at q ⊢; exact BelowL.mono h ds q
  | .exn _ _ ds, q => by unfold Below at q ⊢; exact BelowL.mono h ds q
  | .err _ _ ds, q => by unfold Below at q ⊢; exact BelowL.mono h ds q
  | .dct l, q => by unfold Below at q ⊢; omega
  | .dtt l, q => by unfold Below at q ⊢; omega
  | .non, _ => by unfold Below; trivial
  | .bl _, _ => by unfold Below; trivial
  | .int _, _ => by unfold Below; trivial
  | .str _, _ => by unfold Below; trivial
theorem BelowL.mono {n m : Nat} (h : n ≤ m) : ∀ ds : List D, BelowL n ds → BelowL m ds
  | [], _ => by unfold BelowL; trivial
  | d :: ds, q => by
    unfold BelowL at q ⊢
    exact ⟨Below.mono h d q.1, BelowL.mono h ds q.2⟩
end
mutual
theorem Rn.same {n : Nat} {κ : List Nat} (h : ∀ i, i < n → κ[i]? = some i) : ∀ d : D, Below n d → Rn κ d d
  | .lst l, q => by
    unfold Below at q
    unfold Rn
    exact ⟨l, rfl, h l q⟩
  | .tup ds, q => by
    unfold Below at q
    unfold Rn
    exact ⟨ds, rfl, RnL.same h ds q⟩
  | .wk ds, q => by
    unfold Below at q
    unfold Rn
    exact ⟨ds, rfl, RnL.same h ds q⟩
  | .frl ds, q => by
    unfold Below at q
    unfold Rn
    exact ⟨ds, rfl, RnL.same h ds q⟩
  | .exn _ _ ds, q => by
    unfold Below at q
    unfold Rn
    exact ⟨ds, rfl, RnL.same h ds q⟩
  | .err _ _ ds, q => by
    unfold Below at q
    unfold Rn
    exact ⟨ds, rfl, RnL.same h ds q⟩
  | .dct l, q => by
    unfold Below at q
    unfold Rn
    exact ⟨l, rfl, h l q⟩
  | .dtt l, q => by
    unfold Below at q
    unfold Rn
    exact ⟨l, rfl, h l q⟩
  | .non, _ => by unfold Rn; rfl
  | .bl _, _ => by unfold Rn; rfl
  | .int _, _ => by unfold Rn; rfl
  | .str _, _ => by unfold Rn; rfl
theorem RnL.same {n : Nat} {κ : List Nat} (h : ∀ i, i < n → κ[i]? = some i) : ∀ ds : List D, BelowL n ds → RnL κ ds ds
  | [], _ => by unfold RnL; rfl
  | d :: ds, q => by
    unfold BelowL at q
    unfold RnL
    exact ⟨d, ds, rfl, Rn.same h d q.1, RnL.same h ds q.2⟩
end
section
variable {c : Cz} {H : Hp} {φ φ2 : List Addr} {κ : List Nat}
mutual
theorem RepV.below : ∀ (d : D) (v : V), RepV c H φ d v → Below φ.length d
  | .lst l, v, h => by
    unfold RepV at h
    obtain ⟨a, _, e, _⟩ := h
    unfold Below
    exact (List.getElem?_eq_some_iff.mp e).1
  | .dct l, v, h => by
    unfold RepV at h
    obtain ⟨a, _, e, _⟩ := h
    unfold Below
    exact (List.getElem?_eq_some_iff.mp e).1
  | .dtt l, v, h => by
    unfold RepV at h
    obtain ⟨a, _, e, _⟩ := h
    unfold Below
    exact (List.getElem?_eq_some_iff.mp e).1
  | .err _ _ ds, v, h => by
    unfold RepV at h
    obtain ⟨a, C, d, vs, _, _, _, _, _, e⟩ := h
    unfold Below
    exact RepL.below ds vs e
  | .tup ds, v, h => by
    unfold RepV at h
    obtain ⟨a, xs, _, _, e⟩ := h
    unfold Below
    exact RepL.below ds xs e
  | .wk ds, v, h => by
    unfold RepV at h
    obtain ⟨a, xs, _, _, e⟩ := h
    unfold Below
    exact RepL.below ds xs e
  | .frl ds, v, h => by
    unfold RepV at h
    obtain ⟨a, xs, _, _, e⟩ := h
    unfold Below
    exact RepL.below ds xs e
  | .exn _ _ ds, v, h => by
    unfold RepV at h
    obtain ⟨a, cls, d, vs, _, _, _, _, _, e⟩ := h
    unfold Below
    exact RepL.below ds vs e
  | .non, _, _ => by unfold Below; trivial
  | .bl _, _, _ => by unfold Below; trivial
  | .int _, _, _ => by unfold Below; trivial
  | .str _, _, _ => by unfold Below; trivial
theorem RepL.below : ∀ (ds : List D) (vs : List V), RepL c H φ ds vs → BelowL φ.length ds
  | [], _, _ => by unfold BelowL; trivial
  | d :: ds, _, h => by
    unfold RepL at h
    obtain ⟨v, vr, _, h2, h3⟩ := h
    unfold BelowL
    exact ⟨RepV.below d v h2, RepL.below ds vr h3⟩
end
mutual
theorem RepV.rn (hκ : ∀ (i k : Nat), κ[i]? = some k → φ2[i]? = φ[k]?) : ∀ (d e : D) (v : V), Rn κ d e → RepV c H φ e v → RepV c H φ2 d v
  | .lst l, e, v, r, h => by
    unfold Rn at r
    obtain ⟨k, rfl, q⟩ := r
    unfold RepV at h ⊢
    obtain ⟨a, h1, h2, h3⟩ := h
    exact ⟨a, h1, (hκ l k q).trans h2, h3⟩
  | .dct l, e, v, r, h => by
    unfold Rn at r
    obtain ⟨k, rfl, q⟩ := r
    unfold RepV at h ⊢
    obtain ⟨a, h1, h2, h3⟩ := h
    exact ⟨a, h1, (hκ l k q).trans h2, h3⟩
  | .dtt l, e, v, r, h => by
    unfold Rn at r
    obtain ⟨k, rfl, q⟩ := r
    unfold RepV at h ⊢
    obtain ⟨a, h1, h2, h3⟩ := h
    exact ⟨a, h1, (hκ l k q).trans h2, h3⟩
  | .err _ _ ds, e, v, r, h => by
    unfold Rn at r
    obtain ⟨es, rfl, q⟩ := r
    unfold RepV at h ⊢
    obtain ⟨a, C, d, vs, h1, h2, h3, h4, h5, h6⟩ := h
    exact ⟨a, C, d, vs, h1, h2, h3, h4, h5, RepL.rn hκ ds es vs q h6⟩
  | .tup ds, e, v, r, h => by
    unfold Rn at r
    obtain ⟨es, rfl, q⟩ := r
    unfold RepV at h ⊢
    obtain ⟨a, xs, h1, h2, h3⟩ := h
    exact ⟨a, xs, h1, h2, RepL.rn hκ ds es xs q h3⟩
  | .wk ds, e, v, r, h => by
    unfold Rn at r
    obtain ⟨es, rfl, q⟩ := r
    unfold RepV at h ⊢
    obtain ⟨a, xs, h1, h2, h3⟩ := h
    exact ⟨a, xs, h1, h2, RepL.rn hκ ds es xs q h3⟩
  | .frl ds, e, v, r, h => by
    unfold Rn at r
    obtain ⟨es, rfl, q⟩ := r
    unfold RepV at h ⊢
    obtain ⟨a, xs, h1, h2, h3⟩ := h
    exact ⟨a, xs, h1, h2, RepL.rn hκ ds es xs q h3⟩
  | .exn _ _ ds, e, v, r, h => by
    unfold Rn at r
    obtain ⟨es, rfl, q⟩ := r
    unfold RepV at h ⊢
    obtain ⟨a, cls, d, vs, h1, h2, h3, h4, h5, h6⟩ := h
    exact ⟨a, cls, d, vs, h1, h2, h3, h4, h5, RepL.rn hκ ds es vs q h6⟩
  | .non, e, v, r, h => by
    unfold Rn at r
    subst r
    unfold RepV at h ⊢
    exact h
  | .bl _, e, v, r, h => by
    unfold Rn at r
    subst r
    unfold RepV at h ⊢
    exact h
  | .int _, e, v, r, h => by
    unfold Rn at r
    subst r
    unfold RepV at h ⊢
    exact h
  | .str _, e, v, r, h => by
    unfold Rn at r
    subst r
    unfold RepV at h ⊢
    exact h
theorem RepL.rn (hκ : ∀ (i k : Nat), κ[i]? = some k → φ2[i]? = φ[k]?) : ∀ (ds es : List D) (vs : List V), RnL κ ds es → RepL c H φ es vs → RepL c H φ2 ds vs
  | [], es, vs, r, h => by
    unfold RnL at r
    subst r
    unfold RepL at h ⊢
    exact h
  | d :: ds, es, vs, r, h => by
    unfold RnL at r
    obtain ⟨e, er, rfl, q1, q2⟩ := r
    unfold RepL at h ⊢
    obtain ⟨v, vr, h1, h2, h3⟩ := h
    exact ⟨v, vr, h1, RepV.rn hκ d e v q1 h2, RepL.rn hκ ds er vr q2 h3⟩
end
end
theorem rn_keyD {κ : List Nat} {k : Key} {x : D} (r : Rn κ x (keyD k)) : x = keyD k := by
  cases k <;> cases x <;> unfold Rn at r <;> first
    | (obtain ⟨_, e, _⟩ := r; cases e; done)
    | (cases r; rfl)
    | (cases r; done)
theorem rnL_keys {κ : List Nat} : ∀ {ks : List Key} {xs : List D}, RnL κ xs (ks.map keyD) → xs = ks.map keyD
  | [], xs, r => by
    cases xs with
    | nil => rfl
    | cons x xs =>
      unfold RnL at r
      obtain ⟨e, er, q, _⟩ := r
      cases q
  | k :: ks, xs, r => by
    cases xs with
    | nil =>
      unfold RnL at r
      cases r
    | cons x xs =>
      unfold RnL at r
      obtain ⟨e, er, q, q1, q2⟩ := r
      cases q
      rw [rn_keyD q1, rnL_keys q2]
      rfl
theorem rn_keyT {κ : List Nat} {k : List Key} {x : D} (r : Rn κ x (keyT k)) : x = keyT k := by
  cases x <;> unfold Rn keyT at r <;> first
    | (obtain ⟨_, e, q⟩ := r; cases e; unfold keyT; rw [rnL_keys q]; done)
    | (obtain ⟨_, e, _⟩ := r; cases e; done)
    | (cases r; done)
theorem rnL_ents {α : Type} {f : α → D} {κ : List Nat} (hf : ∀ (k : α) (x : D), Rn κ x (f k) → x = f k) : ∀ {ks : List α} {ds xs : List D}, ks.length = ds.length → RnL κ xs (ents f ks ds) → ∃ ds', xs = ents f ks ds' ∧ RnL κ ds' ds
  | [], [], xs, _, r => by
    cases xs with
    | nil => exact ⟨[], rfl, by unfold RnL; rfl⟩
    | cons x xs =>
      unfold RnL at r
      obtain ⟨e, er, q, _⟩ := r
      cases q
  | [], _ :: _, _, h, _ => by simp at h
  | _ :: _, [], _, h, _ => by simp at h
  | k :: ks, d :: ds, xs, h, r => by
    cases xs with
    | nil =>
      unfold RnL at r
      cases r
    | cons x xs =>
      unfold RnL at r
      obtain ⟨e, er, q, q1, q2⟩ := r
      cases q
      obtain ⟨ds', e1, e2⟩ := rnL_ents hf (by simpa using h) q2
      cases x <;> unfold Rn at q1 <;> first
        | (obtain ⟨_, e, _⟩ := q1; cases e; done)
        | (cases q1; done)
        | skip
      rename_i ys
      obtain ⟨es, e3, q3⟩ := q1
      cases e3
      match ys, q3 with
      | [], q3 => unfold RnL at q3; cases q3
      | [y], q3 =>
        unfold RnL at q3
        obtain ⟨_, _, z, _, q4⟩ := q3
        cases z
        unfold RnL at q4
        cases q4
      | [y, z], q3 =>
        unfold RnL at q3
        obtain ⟨_, _, w, q4, q5⟩ := q3
        cases w
        unfold RnL at q5
        obtain ⟨_, _, w, q6, _⟩ := q5
        cases w
        refine ⟨z :: ds', ?_, ?_⟩
        · rw [hf k y q4, e1]
          rfl
        · unfold RnL
          exact ⟨d, ds, rfl, q6, e2⟩
      | y :: z :: u :: ys, q3 =>
        unfold RnL at q3
        obtain ⟨_, _, w, _, q5⟩ := q3
        cases w
        unfold RnL at q5
        obtain ⟨_, _, w, _, q7⟩ := q5
        cases w
        unfold RnL at q7
        obtain ⟨_, _, w, _⟩ := q7
        cases w
theorem below_ents {α : Type} {f : α → D} {n : Nat} (hf : ∀ k : α, Below n (f k)) : ∀ {ks : List α} {ds : List D}, BelowL n ds → BelowL n (ents f ks ds)
  | [], _, _ => by simp [ents, BelowL]
  | _ :: _, [], _ => by simp [ents, BelowL]
  | k :: ks, d :: ds, h => by
    unfold BelowL at h
    have := below_ents hf (ks := ks) h.2
    unfold ents at this ⊢
    rw [List.zipWith_cons_cons]
    unfold BelowL
    refine ⟨?_, this⟩
    unfold Below BelowL BelowL BelowL
    exact ⟨hf k, h.1, trivial⟩
theorem below_keyD {n : Nat} (k : Key) : Below n (keyD k) := by
  cases k <;> (unfold keyD Below; trivial)
theorem below_keyL {n : Nat} : ∀ k : List Key, BelowL n (k.map keyD)
  | [] => by unfold List.map BelowL; trivial
  | k :: ks => by
    rw [List.map_cons]
    unfold BelowL
    exact ⟨below_keyD k, below_keyL ks⟩
theorem below_keyT {n : Nat} (k : List Key) : Below n (keyT k) := by
  unfold keyT Below
  exact below_keyL k
theorem Cell.below {c : Cz} {H : Hp} {φ : List Addr} {xs : List D} {a : Addr} (h : Cell c H φ xs a) : BelowL φ.length xs := by
  rcases h with ⟨vs, h2, h3⟩ | ⟨kvs, ds, h2, h3, h4⟩ | ⟨kvs, ds, h2, h3, h4⟩ | ⟨q, kvs, ds, h2, h3, h4⟩
  · exact RepL.below _ _ h3
  · rw [h3]
    exact below_ents below_keyD (RepL.below _ _ h4)
  · rw [h3]
    exact below_ents below_keyT (RepL.below _ _ h4)
  · rw [h3]
    unfold lkd BelowL
    refine ⟨?_, below_ents below_keyD (RepL.below _ _ h4)⟩
    unfold Below BelowL
    trivial
theorem Cell.rn {c : Cz} {H : Hp} {φ φ2 : List Addr} {κ : List Nat} (hκ : ∀ (i k : Nat), κ[i]? = some k → φ2[i]? = φ[k]?) {xs ys : List D} {a : Addr} (r : RnL κ xs ys) (h : Cell c H φ ys a) : Cell c H φ2 xs a := by
  rcases h with ⟨vs, h2, h3⟩ | ⟨kvs, ds, h2, h3, h4⟩ | ⟨kvs, ds, h2, h3, h4⟩ | ⟨q, kvs, ds, h2, h3, h4⟩
  · exact .inl ⟨vs, h2, RepL.rn hκ xs ys vs r h3⟩
  · rw [h3] at r
    obtain ⟨ds', e1, e2⟩ := rnL_ents (fun _ _ => rn_keyD) (by rw [h4.length, List.length_map, List.length_map]) r
    exact .inr (.inl ⟨kvs, ds', h2, e1, RepL.rn hκ ds' ds _ e2 h4⟩)
  · rw [h3] at r
    obtain ⟨ds', e1, e2⟩ := rnL_ents (fun _ _ => rn_keyT) (by rw [h4.length, List.length_map, List.length_map]) r
    exact .inr (.inr (.inl ⟨kvs, ds', h2, e1, RepL.rn hκ ds' ds _ e2 h4⟩))
  · rw [h3] at r
    cases xs with
    | nil => simp [lkd, RnL] at r
    | cons x xs =>
      unfold lkd RnL at r
      obtain ⟨r0, er, e0, r1, r2⟩ := r
      cases e0
      obtain ⟨ds', e1, e2⟩ := rnL_ents (f := keyD) (fun _ _ => rn_keyD) (by rw [h4.length]; simp) r2
      have ex : x = .wk [] := by
        cases x <;> (unfold Rn at r1; first | (cases r1; done) | (obtain ⟨_, r1, _⟩ := r1; cases r1; done) | skip)
        rename_i zs
        obtain ⟨es, e3, r3⟩ := r1
        cases e3
        cases zs with
        | nil => rfl
        | cons _ _ => unfold RnL at r3; obtain ⟨_, _, r3, _⟩ := r3; cases r3
      subst ex
      exact .inr (.inr (.inr ⟨q, kvs, ds', h2, by rw [e1]; rfl, RepL.rn hκ ds' ds _ e2 h4⟩))
/-- S2 is what is kept of S1, S0 having stood before -/
structure Gc (S0 : Sto) (κ : List Nat) (S1 S2 : Sto) : Prop where
  nd : κ.Nodup
  len : κ.length = S2.length
  lo : S0.length ≤ S2.length
  id : ∀ i, i < S0.length → κ[i]? = some i
  at_ : ∀ (i : Nat) (xs : List D), S2[i]? = some xs → ∃ k ys, κ[i]? = some k ∧ S1[k]? = some ys ∧ ((S0[i]? = some xs ∧ ys = xs) ∨ RnL κ xs ys)
theorem Gc.get {S0 S1 S2 : Sto} {κ : List Nat} (g : Gc S0 κ S1 S2) {i k : Nat} (h : κ[i]? = some k) : k < S1.length := by
  have hi : i < S2.length := by
    rw [← g.len]
    exact (List.getElem?_eq_some_iff.mp h).1
  obtain ⟨k', ys, e1, e2, _⟩ := g.at_ i S2[i] (List.getElem?_eq_getElem hi)
  rw [h] at e1
  cases e1
  exact (List.getElem?_eq_some_iff.mp e2).1
theorem Gc.rep {c : Cz} {H H' : Hp} {φ φ' : List Addr} {S0 S1 S2 : Sto} {κ : List Nat} (g : Gc S0 κ S1 S2) (rs : RepS c H φ S0) (e : Ext H φ H' φ') (r1 : RepS c H' φ' S1) :
    ∃ φ2, Ext H φ H' φ2 ∧ RepS c H' φ2 S2 ∧ ∀ (i k : Nat), κ[i]? = some k → φ2[i]? = φ'[k]? := by
  by_cases h0 : S2.length = 0
  · have e0 : S2 = [] := List.length_eq_zero_iff.mp h0
    have k0 : κ = [] := List.length_eq_zero_iff.mp (g.len.trans h0)
    have l0 : φ = [] := List.length_eq_zero_iff.mp (by rw [rs.len]; have := g.lo; omega)
    subst e0 k0 l0
    refine ⟨[], ⟨List.prefix_refl _, e.keep, fun b hb => by simp at hb, fun b hb => by simp at hb, e.lock⟩, ⟨by simp, rfl, fun l xs h => by simp at h⟩, fun i k h => by simp at h⟩
  · obtain ⟨a0, _⟩ : ∃ a : Addr, a ∈ φ' := by
      obtain ⟨k, hk⟩ : ∃ k, κ[0]? = some k := ⟨_, List.getElem?_eq_getElem (by rw [g.len]; omega)⟩
      have := g.get hk
      rw [← r1.len] at this
      exact ⟨_, List.getElem_mem this⟩
    have get : ∀ (i k : Nat), κ[i]? = some k → (κ.map fun k => (φ'[k]?).getD a0)[i]? = φ'[k]? := fun i k h => by
      rw [List.getElem?_map, h]
      have hk := g.get h
      rw [← r1.len] at hk
      rw [List.getElem?_eq_getElem hk]
      simp [List.getElem?_eq_getElem hk]
    generalize hφ2 : (κ.map fun k => (φ'[k]?).getD a0) = φ2 at get
    have len2 : φ2.length = S2.length := by rw [← hφ2, List.length_map, g.len]
    have inn : ∀ (i : Nat) (a : Addr), φ2[i]? = some a → ∃ k, κ[i]? = some k ∧ φ'[k]? = some a := fun i a h => by
      have hi : i < κ.length := by
        rw [g.len, ← len2]
        exact (List.getElem?_eq_some_iff.mp h).1
      refine ⟨κ[i], List.getElem?_eq_getElem hi, ?_⟩
      rw [← get i κ[i] (List.getElem?_eq_getElem hi)]
      exact h
    refine ⟨φ2, ⟨?_, e.keep, fun b hb nb => ?_, e.kind, e.lock⟩, ⟨?_, len2, fun l xs h => ?_⟩, get⟩
    · rw [List.prefix_iff_getElem?]
      intro i hi
      rw [get i i (g.id i (by rw [← rs.len]; exact hi))]
      exact pre_get e.pre (List.getElem?_eq_getElem hi)
    · obtain ⟨i, hi⟩ := List.getElem?_of_mem hb
      obtain ⟨k, _, q⟩ := inn i b hi
      exact e.new b (List.mem_of_getElem? q) nb
    · rw [List.nodup_iff_pairwise_ne, List.pairwise_iff_getElem]
      intro i j hi hj hij q
      obtain ⟨k1, a1, b1⟩ := inn i φ2[i] (List.getElem?_eq_getElem hi)
      obtain ⟨k2, a2, b2⟩ := inn j φ2[j] (List.getElem?_eq_getElem hj)
      rw [q] at b1
      have ek : k1 = k2 := RepS.write.nodup_ix' r1.nd b1 b2
      subst ek
      have := RepS.write.nodup_ix' g.nd a1 a2
      omega
    · obtain ⟨k, ys, e1, e2, e3⟩ := g.at_ l xs h
      obtain ⟨a, f1, f2⟩ := r1.cell k ys e2
      refine ⟨a, (get l k e1).trans f1, ?_⟩
      rcases e3 with ⟨z, rfl⟩ | z
      · obtain ⟨_, _, w⟩ := rs.cell l ys z
        have bw := w.below
        rw [rs.len] at bw
        exact f2.rn get (RnL.same g.id ys bw)
      · exact f2.rn get z
/-- r' stands for r -/
def Sim (S0 : Sto) (r r' : Res D) : Prop := match r' with
  | .stuck => True
  | .ok d' S2 => ∃ d S1 κ, r = .ok d S1 ∧ Gc S0 κ S1 S2 ∧ Rn κ d' d
  | .exc n ns ds' S2 => ∃ ds S1 κ, r = .exc n ns ds S1 ∧ Gc S0 κ S1 S2 ∧ RnL κ ds' ds
theorem Sim.out {c : Cz} {H : Hp} {φ : List Addr} {S : Sto} {r r' : Res D} {Q : VK} {E : XK} (h : Sim S r r') (rs : RepS c H φ S) (o : Out c H φ (RepV c) r' Q E) : Out c H φ (RepV c) r Q E := by
  cases r' with
  | stuck => exact o.elim
  | ok d' S2 =>
    obtain ⟨d, S1, κ, rfl, g, q⟩ := h
    intro φ' H' y e r1 ry
    obtain ⟨φ2, e2, r2, hκ⟩ := g.rep rs e r1
    exact o φ2 H' y e2 r2 (RepV.rn hκ d' d y q ry)
  | exc n ns ds' S2 =>
    obtain ⟨ds, S1, κ, rfl, g, q⟩ := h
    intro φ' H' cls dx vs e r1 m1 m2 m3 m4
    obtain ⟨φ2, e2, r2, hκ⟩ := g.rep rs e r1
    exact o φ2 H' cls dx vs e2 r2 m1 m2 m3 (RepL.rn hκ ds' ds vs q m4)
section
variable {P : Program} {w : World} {K : PySem.W.Frag} {mg : Str → Option Value} {base : Heap} {k : Nat} {x : Str} {st : Stmt} {ps : List Str} {rf sp : List D → Sto → Res D}
theorem spEv_sim {c : Cz} {n : Nat} (h : ∀ ds S, Sim S (rf ds S) (sp ds S)) : ∀ vs H Q E, spEv c n sp vs H Q E → spEv c n rf vs H Q E := fun vs H Q E ⟨l, φ, ds, S, r, rs, o⟩ => ⟨l, φ, ds, S, r, rs, (h ds S).out rs o⟩
theorem OkD.spec (T : OkD P w K mg base k x st ps rf) (h : ∀ ds S, Sim S (rf ds S) (sp ds S)) : OkD P w K mg base k x st ps sp := by
  obtain ⟨hg, fd, F, ok, bd⟩ := T
  exact ⟨hg, fd, F, ok.imp (spEv_sim h), bd⟩
theorem OkC.spec (T : OkC P w K mg base k x st ps rf) (h : ∀ ds S, Sim S (rf ds S) (sp ds S)) : OkC P w K mg base k x st ps sp := by
  obtain ⟨hg, fd, F, ok, bd⟩ := T
  exact ⟨hg, fd, F, fun xc => ⟨fun vs H Q E q => (ok xc).len vs H Q E (spEv_sim h _ _ _ _ q), fun A outer s H args us vs Q a b c' d q => (ok xc).run A outer s H args us vs Q a b c' d (spEv_sim h _ _ _ _ q)⟩, bd⟩
end
/-! ways to stand for -/
theorem gc_upd {S S' G : Sto} (hl : S'.length = S.length) (h : ∀ (i : Nat) (xs : List D), S'[i]? = some xs → S[i]? = some xs ∨ BelowL S.length xs) : Gc S (List.range S'.length) (S' ++ G) S' where
  nd := List.nodup_range
  len := List.length_range
  lo := by omega
  id := fun i hi => by rw [List.getElem?_range (by omega)]
  at_ := fun i xs e => by
    have hi := (List.getElem?_eq_some_iff.mp e).1
    refine ⟨i, xs, by rw [List.getElem?_range hi], by rw [List.getElem?_append_left hi]; exact e, ?_⟩
    rcases h i xs e with z | z
    · exact .inl ⟨z, rfl⟩
    · exact .inr (RnL.same (fun j hj => by rw [List.getElem?_range (by omega)]) xs z)
theorem Sim.upd {S S' G : Sto} {r : Res D} {d : D} (e : r = .ok d (S' ++ G)) (hl : S'.length = S.length) (h : ∀ (i : Nat) (xs : List D), S'[i]? = some xs → S[i]? = some xs ∨ BelowL S.length xs) (hd : Below S.length d) : Sim S r (.ok d S') :=
  ⟨d, _, _, e, gc_upd hl h, Rn.same (n := S.length) (fun j hj => by rw [List.getElem?_range (by omega)]) d hd⟩
theorem Sim.val {S G : Sto} {r : Res D} {d : D} (e : r = .ok d (S ++ G)) (hd : Below S.length d) : Sim S r (.ok d S) := Sim.upd e rfl (fun _ _ h => .inl h) hd
theorem Sim.exc {S G : Sto} {r : Res D} {n : Str} {ns : List Str} {ds : List D} (e : r = .exc n ns ds (S ++ G)) (hd : BelowL S.length ds) : Sim S r (.exc n ns ds S) :=
  ⟨ds, _, _, e, gc_upd rfl (fun _ _ h => .inl h), RnL.same (n := S.length) (fun j hj => by rw [List.getElem?_range hj]) ds hd⟩
/-- a new list -/
theorem Sim.new {S S' G : Sto} {r : Res D} {l : Nat} {xs : List D} (e : r = .ok (.lst l) (S' ++ G)) (hl : S'.length = S.length) (h : ∀ (i : Nat) (xs : List D), S'[i]? = some xs → S[i]? = some xs ∨ BelowL S.length xs) (lo : S.length ≤ l) (hx : (S' ++ G)[l]? = some xs) (hb : BelowL S.length xs) : Sim S r (.ok (.lst S.length) (S' ++ [xs])) := by
  have hid : ∀ i, i < S.length → (List.range S.length ++ [l])[i]? = some i := fun i hi => by
    rw [List.getElem?_append_left (by rw [List.length_range]; exact hi), List.getElem?_range hi]
  refine ⟨.lst l, _, List.range S.length ++ [l], e, ⟨?_, by simp [hl], by simp [hl], hid, fun i ys q => ?_⟩, ?_⟩
  · rw [List.nodup_append]
    refine ⟨List.nodup_range, by simp, fun a ha b hb => ?_⟩
    simp at ha hb
    omega
  · have hi := (List.getElem?_eq_some_iff.mp q).1
    by_cases hlt : i < S.length
    · rw [List.getElem?_append_left (by omega)] at q
      refine ⟨i, ys, hid i hlt, by rw [List.getElem?_append_left (by omega)]; exact q, ?_⟩
      rcases h i ys q with z | z
      · exact .inl ⟨z, rfl⟩
      · exact .inr (RnL.same hid ys z)
    · have ei : i = S.length := by simp at hi; omega
      subst ei
      rw [List.getElem?_append_right (by omega), hl, Nat.sub_self] at q
      cases q
      exact ⟨l, xs, by rw [List.getElem?_append_right (by simp)]; simp, hx, .inr (RnL.same hid xs hb)⟩
  · unfold Rn
    exact ⟨l, rfl, by rw [List.getElem?_append_right (by simp)]; simp⟩
end MP
end
section
set_option Elab.async false
set_option linter.all false
set_option maxRecDepth 100000
set_option maxHeartbeats 1000000
/-! MPE: enumerate of lists and tuples, least and greatest of them, the number of a tuple's different ints. -/
namespace MP
open PySem PySem.Spec PyProof.Rows L2

/-! ### enumerate -/
theorem meets_en1 {u : Value} {ob : Obj} {Hh : Heap → Prop} (B : Begins u ob Hh) :
    Meets (Builtin.«enumerate.__new__» ⟨[.type "enumerate", u], []⟩) (fun _ R z => Hh z.heap ∧ R (.ok (.ret (.ref (z.heap.push ob).objs.size))) { z with heap := (z.heap.push ob).push { cls := .type "enumerate", data := .fields #[.none, .bool false, .ref z.heap.objs.size, rawInt 0, .none, .none] } }) :=
  .of_wp fun pg ww Ar R z k => by
    obtain ⟨h0, g0, d0, t0, o0⟩ := z
    obtain ⟨k1, k2⟩ := k
    have hsub := sub_enumerate
    have dr : ∀ {A' : Around} {E' : Value → Shared → Prop} {Q' : Value → Shared → Prop}, Q' (.ref h0.objs.size) ⟨h0.push ob, g0, d0, t0, o0⟩ → wpAny (model pg ww) A' (pyIter u) Q' E' ⟨h0, g0, d0, t0, o0⟩ :=
      fun q => B.iter pg ww _ _ ⟨h0, g0, d0, t0, o0⟩ _ k1 q
    wp_walk using dr
    refine wpAny_stack_any fun _ => wpAny_pure ?_
    split
    · rename_i cc _ _ _ _ _
      cases (cc == Value.type "enumerate") <;>
        · wp_walk using dr
          exact ⟨_, rfl, k2⟩
    · wp_walk using dr
      exact ⟨_, rfl, k2⟩
theorem en1_new {pg : Program} {ww : World} {Ar : Around} {Ex : Value → Shared → Prop} {z : Shared} {u : Value} {ob : Obj} {Hh : Heap → Prop} {Q : Value → Shared → Prop} (B : Begins u ob Hh) (k1 : Hh z.heap)
    (k : ∀ h2, IsEnum h2 (z.heap.objs.size + 1) z.heap.objs.size 0 .none → h2.get? z.heap.objs.size = some ob → (∀ b o, z.heap.get? b = some o → h2.get? b = some o) → Q (.ref (z.heap.objs.size + 1)) { z with heap := h2 }) :
    wpAny (model pg ww) Ar (call (.type "enumerate") [u]) Q Ex z := by
  refine callType_new F.called_enumerate (by decide) (F.typeCall_enumerate_1 _) (F.newCall_enumerate_1 _) (fun ov => F.args_object_init_2 ov _) F.entry_enumerate_new (meets_en1 B) ⟨k1, ?_⟩
  have sz : (z.heap.push ob).objs.size = z.heap.objs.size + 1 := Heap.size_push ..
  show _ ∧ _
  rw [sz]
  have hE : IsEnum ((z.heap.push ob).push { cls := .type "enumerate", data := .fields #[.none, .bool false, .ref z.heap.objs.size, rawInt 0, .none, .none] }) (z.heap.objs.size + 1) z.heap.objs.size 0 .none := by
    have t := Heap.get?_push_size (z.heap.push ob) (o := { cls := .type "enumerate", data := .fields #[.none, .bool false, .ref z.heap.objs.size, rawInt 0, .none, .none] }) rfl
    rw [sz] at t
    exact t
  exact ⟨⟨_, hE, rfl⟩, k _ hE (Heap.get?_push_of_some _ (Heap.get?_push_size _ B.free)) fun b o y => Heap.get?_push_of_some _ (Heap.get?_push_of_some _ y)⟩
/-- the tuple at a, its items with their places in new pairs -/
def Iten (K : PySem.W.Frag) (a : Addr) : It where
  go i H := ∃ (us : List V) (u : V), SqT K H a us ∧ us[i]? = some u
  yld i H v H' := ∃ T u, v = .ref T ∧ H T = none ∧ H' = upd H T (.tup [.int (i : Nat), u]) ∧ ∀ us, SqT K H a us → us[i]? = some u
  stop i H := ∃ us : List V, SqT K H a us ∧ us.length ≤ i
theorem turn_en {P : Program} {w : World} {K : PySem.W.Frag} {elts : List Expr} {kk : Nat} {tpos : Pos} (a e it : Addr) (hat : a ≠ it) (hae : e ≠ a) :
    Turn P w K (.Tuple elts kk tpos) (Iten K a) [e, it] e (fun i h => (∃ old, IsEnum h e it ((i : Nat) : Int) old) ∧ h.IsTupleIter it a i ∧ e ≠ it) where
  mem := List.mem_cons_self ..
  obj := fun i h ⟨⟨old, h1⟩, ⟨o, h2, _, h3⟩, _⟩ b hb => by
    rcases (show b = e ∨ b = it by simpa using hb) with rfl | rfl
    · exact ⟨_, h1, fun v q => nomatch q⟩
    · exact ⟨o, h2, fun v q => by rw [h3] at q; cases q⟩
  keep := fun i h h' ⟨⟨old, h1⟩, h2, h3⟩ k => ⟨⟨old, k e (by simp) _ h1⟩, h2.at fun o q => k it (by simp) o q, h3⟩
  item := by
    intro X hP hw hK hc i pins s σ H E I hf ⟨⟨old, h1⟩, h2, h3⟩ ⟨us, u, hq, hu⟩
    subst hP hw hK
    obtain ⟨its, rv, pt, _⟩ := I.tuple hq
    obtain ⟨uv, huv, ru⟩ := rv.get hu
    have pt' : s.heap.IsTuple a its.toArray := pt
    have le : e < s.heap.objs.size := Heap.lt_size h1
    have li : it < s.heap.objs.size := by obtain ⟨_, q, _⟩ := h2; exact Heap.lt_size q
    have hil : i < its.toArray.size := by
      rw [List.size_toArray]
      exact (List.getElem?_eq_some_iff.mp huv).1
    refine wpAny_pyNext_enum_itemD (Draws.tuple (A := X.A.in1) (I.ok.hd hc) it a hat its.toArray) h1 ⟨h2, pt'⟩ hil h3 (by simp [h3, hae]) fun x h' tk hx ho hs' hT hsz hk => ?_
    have ex : x = uv := by
      have q : its.toArray[i]? = some uv := by simpa using huv
      rw [hx] at q
      exact Option.some.inj q
    subst ex
    refine ⟨_, rfl, wpAny_letOwnedTupleGo_enum (s := { s with heap := h', toks := tk + 1 }) ho fun h'' he' sb => ?_⟩
    have hT2 : h''.get? s.heap.objs.size = some { cls := .type "tuple", data := .seq #[.int i tk, x] } := (sb.2 _ (Nat.ne_of_gt le)).trans hT
    have ok : ObjOk X.prog X.w (upd H s.heap.objs.size (.tup [.int (i : Nat), u])) h'' s.heap.objs.size (.tup [.int (i : Nat), u]) :=
      ⟨(by show 2 ≤ sizeLine; decide), [.int i tk, x], .cons ⟨_, rfl⟩ (.cons ru .nil), ⟨_, hT2, rfl, _, rfl⟩⟩
    have I1 : Inv X pins σ (upd H s.heap.objs.size (.tup [.int (i : Nat), u])) { s with heap := h'', toks := tk + 1 } :=
      I.turnedNew (ch := [e, it]) (fun b ob hb q => (sb.2 b (fun z => hb (by simp [z]))).trans (hk b ob (fun z => hb (by simp [z])) (fun z => hb (by simp [z])) q)) hf (Nat.le_refl _) ok
    refine ⟨.ref s.heap.objs.size, _, I1, rfl, ⟨_, u, rfl, I.hok.fresh (Nat.le_refl _), rfl, fun ys hy => by rw [I.tuple_inj hy hq]; exact hu⟩, ⟨⟨x, ?_⟩, hs'.1.at fun o q => (sb.2 it (Ne.symm h3)).trans q, h3⟩, fun b hb => ?_⟩
    · rw [show ((i + 1 : Nat) : Int) = (i : Int) + 1 by omega]
      exact he'
    · have hb' : b < s.heap.objs.size := by
        rcases (show b = e ∨ b = it by simpa using hb) with q | q
        · rw [q]; exact le
        · rw [q]; exact li
      rw [upd_ne (Nat.ne_of_lt hb')]
      exact (hf b hb).1
  done := by
    intro X hP hw hK hc i pins s σ H E I hf ⟨⟨old, h1⟩, h2, h3⟩ ⟨us, hq, hu⟩
    subst hP hw hK
    obtain ⟨its, rv, pt, _⟩ := I.tuple hq
    obtain ⟨f0, f1, f2, f3, f4, f5⟩ := hf it (by simp)
    have lv := rv.length
    have hT : s.TypeIs (.ref e) "enumerate" := ⟨_, h1, rfl⟩
    have pt' : s.heap.IsTuple a its.toArray := pt
    unfold pyNext
    refine wpAny_bind (wpAny_attempt (wpAny_callSpecial?_slot (name := Str.ofString "__next__") hT F.slot_enumerate_next (wpAny_call_entry F.slot_enumerate_next hT F.entry_enumerate_next ?_ (F.args_enumerate_next_1 _))))
    show wpAny _ _ (field (.ref e) 2 >>= _) _ _ _
    refine wpAny_bind (wpAny_field h1 rfl (x := .ref it) rfl ?_)
    refine wpAny_bind (wpAny_nextOf_tuple_end (A := X.A.in1) (I.ok.hd hc) h2 pt' (by simp; omega) fun h' ev eb hx => ?_)
    obtain ⟨ox, hox, hcx⟩ := hx
    refine wpAny_bind (wpAny_isInstance (T := "StopIteration") (b := true) ⟨ox, hox, hcx⟩ isSubtype_stop ?_)
    exact wpAny_pure ⟨rfl, I.turned (t' := s.toks) (fun b o hb q => eb b o hb q) f0 f1 f3 f4 f5⟩
  self := fun A i s Q E ⟨⟨_, h1⟩, _⟩ k => wpAny_pyIter_enum h1 k
def iEn (K : PySem.W.Frag) (ta : TA) : TI := fun σ H R => ta σ H fun vs H1 => ∃ a, vs = [.ref a] ∧ ((∃ us, SqL K H1 a us ∧ R (Ite K a) H1) ∨ (∃ us, SqT K H1 a us ∧ R (Iten K a) H1))
theorem pi_en {X : Cx} {e : Expr} {ta : TA} {p pos tpos : Pos} {elts : List Expr} {kk : Nat} (hg : Gl X "enumerate") (hm : X.mg "enumerate" = none) (ha : PA X [e] ta) (hs : starEach [e] X.env = [(false, eval e X.env)] := by rfl) :
    PI X (.Tuple elts kk tpos) (.Call (.Name "enumerate" p) [e] [] pos) (iEn X.K ta) := ⟨fun pins s σ H R I h => by
  refine Call_ (ld_blt I hg hm boot_enumerate (PyProof.Rows.callWith_type1 (thn (ha.run pos pins s σ H _ I h) fun us s1 ⟨vs, H1, I1, r1, a, ex, q⟩ => ?_) hs rfl))
  subst ex
  cases r1 with
  | cons r rr =>
    cases rr
    cases r
    have low : ∀ b ∈ [s1.heap.objs.size + 1, s1.heap.objs.size], FpOk X pins H1 b := fun b hb => by
      have l : s1.heap.objs.size ≤ b := by
        rcases (show b = s1.heap.objs.size + 1 ∨ b = s1.heap.objs.size by simpa using hb) with z | z <;> omega
      exact I1.fpOk l (I1.hok.fresh l)
    rcases q with ⟨xs, hq, q⟩ | ⟨xs, hq, q⟩
    · obtain ⟨its, rv, pl, _⟩ := I1.list hq
      refine en1_new (begins_list a its.toArray) pl.isList fun h2 he hit hk => wpAny_pyIter_enum he ?_
      exact ⟨s1.heap.objs.size + 1, _, _, _, H1, rfl, I1.kept (t' := s1.toks) hk, turn_enum a (s1.heap.objs.size + 1) s1.heap.objs.size, ⟨⟨.none, he⟩, ⟨_, hit, rfl, rfl⟩, Nat.succ_ne_self _⟩, low, q⟩
    · obtain ⟨its, rv, pt, _⟩ := I1.tuple hq
      have pt' : s1.heap.IsTuple a its.toArray := pt
      have la : a < s1.heap.objs.size := by obtain ⟨_, z, _⟩ := pt'; exact Heap.lt_size z
      refine en1_new (begins_tuple a its.toArray) pt' fun h2 he hit hk => wpAny_pyIter_enum he ?_
      exact ⟨s1.heap.objs.size + 1, _, _, _, H1, rfl, I1.kept (t' := s1.toks) hk, turn_en a (s1.heap.objs.size + 1) s1.heap.objs.size (Nat.ne_of_lt la) (Nat.ne_of_gt (Nat.lt_succ_of_lt la)), ⟨⟨.none, he⟩, ⟨_, hit, rfl, rfl⟩, Nat.succ_ne_self _⟩, low, q⟩⟩
/-! over data -/
def enuD : Nat → List D → List D
  | _, [] => []
  | i, x :: xs => .wk [.int (i : Nat), x] :: enuD (i + 1) xs
theorem enuD_length : ∀ (xs : List D) (i : Nat), (enuD i xs).length = xs.length
  | [], _ => rfl
  | x :: xs, i => by rw [enuD, List.length_cons, enuD_length xs, List.length_cons]
theorem enuD_get : ∀ {xs : List D} {k i : Nat} {t : D}, (enuD k xs)[i]? = some t → ∃ x, t = .wk [.int ((k + i : Nat) : Int), x] ∧ xs[i]? = some x
  | [], _, _, _, h => by unfold enuD at h; simp at h
  | x :: xs, k, 0, t, h => by
    unfold enuD at h
    simp at h
    exact ⟨x, by rw [← h]; rfl, rfl⟩
  | x :: xs, k, i + 1, t, h => by
    unfold enuD at h
    obtain ⟨y, h1, h2⟩ := enuD_get (xs := xs) (k := k + 1) (i := i) (t := t) (by simpa using h)
    exact ⟨y, by rw [h1, show k + 1 + i = k + (i + 1) by omega], by simpa using h2⟩
def enuS (ds : List D) (S : Sto) : Res Src := match ds with
  | [d] => match srcOf d S with
    | some z => .ok ⟨enuD 0 z.xs, z.st⟩ S
    | none => .stuck
  | _ => .stuck
section
variable {X : Cx} {c : Cz} {W : WX} {a b d : Expr} {ea eb ed : Ev} {pos : Pos} {es : List Expr} {ra : EvA} {p : Pos}
theorem enu_new {z : Src} {H2 : Hp} {φ2 : List Addr} {S2 : Sto} {us : List V} {i : Nat} {t : D} (s : RepS c H2 φ2 S2) (rl : RepL c H2 φ2 z.xs us) (ht : (enuD 0 z.xs)[i]? = some t) :
    ∃ u, us[i]? = some u ∧ ∀ T, H2 T = none → Ext H2 φ2 (upd H2 T (.tup [.int (i : Nat), u])) φ2 ∧ RepS c (upd H2 T (.tup [.int (i : Nat), u])) φ2 S2 ∧ RepV c (upd H2 T (.tup [.int (i : Nat), u])) φ2 t (.ref T) := by
  obtain ⟨x, rfl, hx⟩ := enuD_get ht
  obtain ⟨u, hu, ru⟩ := rl.get hx
  refine ⟨u, hu, fun T hT => ?_⟩
  obtain ⟨s2, e2⟩ := s.keep (H' := upd H2 T (.tup [.int (i : Nat), u])) (upd_keep hT)
  refine ⟨e2, s2, ?_⟩
  unfold RepV
  exact ⟨T, _, rfl, SqT.of upd_same, .cons (by unfold RepV; rw [Nat.zero_add]) (.cons (RepV.ext s.ls e2 _ _ ru) .nil)⟩
theorem mi_enum {elts : List Expr} {kk : Nat} {tpos : Pos} (h : MA X c W [a] ra) (hm : X.mg "enumerate" = none) (hg : Gl X "enumerate" := by rfl) (hs : starEach [a] X.env = [(false, eval a X.env)] := by rfl) : MI X c W (.Tuple elts kk tpos) (.Call (.Name "enumerate" p) [a] [] pos) (iRange enuS ra) := fun s => by
  refine PI.imp (pi_en hg hm (h s) hs) fun σ H R ⟨φ, ρ, S, re, rs, o⟩ => ?_
  refine ⟨φ, ρ, S, re, rs, Out.bind o fun x S1 φ1 H1 v e1 s1 r1 o1 => ?_⟩
  unfold enuS at o1
  split at o1
  · rename_i d0
    obtain ⟨v1, rfl, r2⟩ := r1.one
    cases eq : srcOf d0 S1 with
    | none => rw [eq] at o1; exact o1.elim
    | some z =>
      rw [eq] at o1
      obtain ⟨a', rfl, q⟩ := src_at s1 r2 eq
      rw [← s.kk]
      refine ⟨a', rfl, ?_⟩
      rcases q with ⟨us, sq, rl, k⟩ | ⟨us, sq, rl, k⟩
      · refine .inl ⟨us, sq, o1 φ1 H1 _ (.refl _ _) s1 fun H2 φ2 S2 i e2 s2 hst => ?_⟩
        obtain ⟨us2, sq2, rl2⟩ := k H2 φ2 S2 e2 s2 hst
        refine ⟨fun t ht => ?_, fun hl => ⟨us2, sq2, by rw [← rl2.length]; rw [enuD_length] at hl; exact hl⟩⟩
        obtain ⟨u, hu, nw⟩ := enu_new s2 rl2 ht
        refine ⟨⟨us2, u, sq2, hu⟩, fun v H3 ⟨T, u', ev, hT, eH, y⟩ => ?_⟩
        have := y us2 sq2
        rw [hu] at this
        cases this
        subst ev eH
        exact nw T hT
      · refine .inr ⟨us, sq, o1 φ1 H1 _ (.refl _ _) s1 fun H2 φ2 S2 i e2 s2 hst => ?_⟩
        obtain ⟨us2, sq2, rl2⟩ := k H2 φ2 S2 e2 s2 hst
        refine ⟨fun t ht => ?_, fun hl => ⟨us2, sq2, by rw [← rl2.length]; rw [enuD_length] at hl; exact hl⟩⟩
        obtain ⟨u, hu, nw⟩ := enu_new s2 rl2 ht
        refine ⟨⟨us2, u, sq2, hu⟩, fun v H3 ⟨T, u', ev, hT, eH, y⟩ => ?_⟩
        have := y us2 sq2
        rw [hu] at this
        cases this
        subst ev eH
        exact nw T hT
  · exact o1.elim
end
end MP
end
section
set_option Elab.async false
set_option linter.all false
set_option maxRecDepth 100000
set_option maxHeartbeats 1000000
/-! MPF: isinstance of a caught error with fields; least, greatest; the number of different ints; comprehensions of two clauses. -/
namespace MP
open PySem PySem.Spec PySem.Calls PyProof.Rows PySem.W

section
variable {pg : Program} {ww : World} {Ar : Around} {Ex : Value → Shared → Prop} {z : Shared} {K : Frag} {x C : Addr} {ox : Obj} {od : Option Obj}
theorem find_cls (T : L2.ExcC K C) : findObj K C od "__class__" = some (.bind (.builtin "getset_descriptor.__get__") (.builtin "object.__class__")) := by
  obtain ⟨cd, hc, _⟩ := any_some T.hd
  unfold findObj
  rw [hc, Option.bind_some, T.ha, Option.bind_some]
  simp [T.hn, T.ht]
theorem cls_of {Q : Option Value → Shared → Prop} (T : L2.ExcC K C) (X : K.In z.heap) (J : InstAt z.heap x ox C od) (h : Q (some (.ref C)) { z with toks := z.toks + 1 }) : wpAny (model pg ww) Ar (getAttr? (.ref x) "__class__") Q Ex z := by
  obtain ⟨h0, g0, d0, t0, o0⟩ := z
  have A0 := J.type (M := model pg ww)
  have A1 := looks_findIn (M := model pg ww) X T.hg
  have A2 := looks_findIn (M := model pg ww) X T.hk
  have A3 := looks_find (M := model pg ww) X J (find_cls T)
  have A4 : Looks (model pg ww) h0 (isInstance (.ref x) (.type "BaseException")) true := A0.andThen (looks_subIn X T.hs)
  have ne : (Value.builtin "BaseException.__getattribute__" == Value.builtin "object.__getattribute__") = false := by decide +kernel
  have n1 : (onTheHeap (Value.ref C) && Value.builtin "BaseException.__getattribute__" == Value.builtin "object.__getattribute__") = false :=
    by rw [ne]; rfl
  unfold getAttr? getAttrBy? getAttrBy
  refine wpAny_bind (wpAny_mkText ?_)
  refine wpAny_bind (wpAny_attempt (wpAny_holding ?_))
  refine wpAny_bind (A0.at (wpAny_bind (A1.at ?_)))
  show wpAny _ _ (if (onTheHeap (Value.ref C) && Value.builtin "BaseException.__getattribute__" == Value.builtin "object.__getattribute__") = true then _ else _)
    _ _ _
  rw [n1, if_neg Bool.false_ne_true]
  unfold getAttrByItsOwn hookBefore
  refine wpAny_bind ?_
  rw [if_pos (show onTheHeap (Value.ref C) = true
    from rfl)]
  refine A2.at ?_
  refine wpAny_bind (wpAny_attempt
    (wpAny_holding ?_))
  unfold callGetattribute
  rw [show (false && onTheHeap (Value.builtin "BaseException.__getattribute__")) = false from rfl, if_neg Bool.false_ne_true]
  unfold boundAndCalled
  rw [PySem.F.excAttr_ValueError.ga.bind
    (.ref x)]
  refine wpAny_bind (wpAny_pure ?_)
  show wpAny _ _ (call (.builtin "BaseException.__getattribute__") [.ref x, .str "__class__" t0])
    _ _ _
  refine wpAny_call (codeAny_call_builtin PySem.F.excAttr_ValueError.ga.plain
    PySem.F.entry_bexc_ga ?_)
  refine @check_slot (model pg ww) _ _ ⟨h0, g0, d0, t0 + 1, o0⟩ "BaseException.__getattribute__" "BaseException" "__getattribute__" (.ref x) [.str "__class__" t0] [] _
    (by decide +kernel) (by decide +kernel) A4 (PySem.F.args_bexc_ga (.ref x) (.str "__class__" t0)) ?_
  unfold Builtin.«object.__getattribute__»
  refine wpAny_bind (wpAny_of_eq (a := ((Value.ref x : Value), [Value.str "__class__" t0]))
    (by first | rfl | (simp only [slotArgs]; rfl)) ?_)
  refine wpAny_bind (wpAny_pure ?_)
  refine wpAny_bind (A0.at (wpAny_bind (A3.at ?_)))
  show wpAny _ _ (holding [Value.builtin "object.__class__"] (call (.builtin "getset_descriptor.__get__") [.builtin "object.__class__", .ref x, .ref C]) >>= ret)
    _ _ _
  refine wpAny_bind (wpAny_holding (wpAny_call (class_get (s := ⟨h0, g0, d0, t0 + 1, o0⟩) (ox := ox) (od := od) X J T.hm ?_)))
  refine wpAny_pure ?_
  show wpAny _ _ (handedOut (.ref C))
    _ _ _
  rw [handedOut_of (v := .ref C)
    rfl]
  first
    | exact wpAny_pure (wpAny_pure h)
    | exact wpAny_pure
        h
    | exact wpAny_pure (wpAny_bind (wpAny_pure (wpAny_pure h)))
theorem kit_exc (T : L2.ExcC K C) : KitX K (.ref x) (.ref C) (fun h => InstAt h x ox C od) where
  ty _ _ _ J := J.type
  it _ _ X _ := by
    obtain ⟨cd, hc, _⟩ := any_some T.hd
    unfold clsIn at hc
    split at hc
    · rename_i c' d' cd' sl' ho
      intro A' Q' E' s' k q
      unfold isType loadHead
      exact wpAny_bind (wpAny_loadPart (k _ _ (X _ _ ho))
        (wpAny_pure q))
    · cases hc
  ne h tp dd its n sl X htp := by
    obtain ⟨cd, hc, _⟩ := any_some T.hd
    refine Bool.eq_false_iff.mpr fun q => ?_
    have e := Value.ref.inj (beq_iff_eq.mp q)
    subst e
    unfold clsIn at hc
    split at hc
    · rename_i c' d' cd' sl' ho
      have y := (X _ _ ho).symm.trans htp
      cases y
    · cases hc
  ca X J k := cls_of T X J k
end
end MP
namespace MP
open PySem PySem.Spec PyProof.Rows L2
section
variable {X : Cx} {c : Cz} {W : WX} {a b d : Expr} {ea eb ed : Ev} {pos : Pos} {es : List Expr} {ra : EvA} {x : Str} {p : Pos}
/-- isinstance(e, t), e the error that the suite holds, with its fields -/
def rIsD (K : PySem.W.Frag) (C a dx : Addr) : List V → Hp → VK → Prop := fun us H Q => ∃ (t : V) (tv : Value) (k : Bool) (fs : List (Str × V)), us = [.ref a, t] ∧ (∀ u, RelV t u → u = tv) ∧ H dx = some (.xd fs) ∧ PySem.W.kitOne K (.ref C) tv = some k ∧ Q (.bl k) H
theorem call_isD {a C dx : Addr} {oe : Obj} {pn : List (Addr × Obj)} (T : ExcC X.K C) (hz : Zc (.ref C) (some dx) oe) (hf : ∃ vs, oe.data = .fields vs) : CallR (X.suite a ((a, oe) :: pn)) (.builtin "isinstance") (rIsD X.K C a dx) := by
  intro pins s σ H us vs Q I r h
  obtain ⟨t, tv, k, fs, rfl, ht, hd, hk, q⟩ := h
  cases r with
  | cons r1 rr =>
    cases rr with
    | cons r2 rr =>
      cases rr
      cases r1
      have e := ht _ r2
      subst e
      obtain ⟨g, _⟩ := I.pin (a, oe) (List.mem_append.mpr (.inl List.mem_cons_self))
      obtain ⟨us, hu⟩ := hf
      have ok : ObjOk X.prog X.w H s.heap dx (.xd fs) := I.hok dx _ hd
      obtain ⟨mA, hns, hr⟩ := ok
      obtain ⟨od, ho, hl⟩ := lookIn_ns hns
      have J : PySem.W.InstAt s.heap a oe C (some od) := ⟨g, hz.1, by unfold PySem.W.notCls; rw [hu] <;> rfl, by rw [hz.2]; exact ho⟩
      exact PySem.W.kia_one (kit_exc T) I.kIn J hk (fun y => nomatch y) fun tk => ⟨.bl k, H, I.tok tk, rfl, q⟩
def dIsE (n : Str) (k : Bool) : D → Sto → Option (D × Sto) := fun d S => match d with
  | .exn m _ _ => if m = n then some (.bl k, S) else none
  | _ => none
theorem me_isE {Y : Cx} {ad C dx : Addr} {oe : Obj} {cls : Value} {pn : List (Addr × Obj)} {n y : Str} {py : Pos} {t : V} {tv : Value} {k : Bool} (T : ExcC Y.K C) (hcn : Y.mg n = some (.ref C)) (hm : Y.mg "isinstance" = none) (ht : PE (Y.suite ad ((ad, oe) :: pn)) (.Name y py) (tC t)) (htv : ∀ u, RelV t u → u = tv) (hk : PySem.W.kitOne Y.K (.ref C) tv = some k)
    (hz : Zc cls (some dx) oe) (hf : ∃ vs, oe.data = .fields vs) (h : ME (Y.suite ad ((ad, oe) :: pn)) (c.hot ad cls dx) W a ea) (hg : Gl Y "isinstance" := by rfl)
    (he1 : starEach [a, .Name y py] Y.env = (false, eval a Y.env) :: starEach [.Name y py] Y.env := by rfl) (he2 : starEach [.Name y py] Y.env = (false, eval (.Name y py) Y.env) :: starEach [] Y.env := by rfl) (hpl : (backTo pos (starEach [.Name y py] Y.env)).any (·.1) = false := by rfl) :
    ME (Y.suite ad ((ad, oe) :: pn)) (c.hot ad cls dx) W (.Call (.Name "isinstance" p) [a, .Name y py] [] pos) (eU (dIsE n k) ea) := fun s => by
  by_cases hcls : cls = .ref C
  · subst hcls
    refine PE.imp (pe_callB (call_isD (X := Y) T hz hf) hg hm (by decide +kernel) (pa_cons (h s) (pa_cons ht pa_nil he2) he1) (by decide) (by decide) he1 hpl) fun σ H Q ⟨φ, ρ, S, re, rs, o⟩ => ?_
    refine ⟨φ, ρ, S, re, rs, Out.bind o fun x S1 φ1 H1 v e1 s1 r1 o1 => ?_⟩
    replace o1 := OutO.of o1
    cases x <;> first
      | exact False.elim o1
      | skip
    rename_i m ns ds
    unfold RepV at r1
    obtain ⟨a', cls', d', vs, rfl, hx, hmg, hd, hl, rl⟩ := r1
    cases hx
    by_cases hn : m = n
    · subst hn
      unfold dIsE at o1
      simp only [if_true] at o1
      exact ⟨t, tv, k, _, rfl, htv, hd, hk, o1 φ1 H1 _ (.refl _ _) s1 rep_bl⟩
    · unfold dIsE at o1
      simp only [if_neg hn] at o1
      exact o1.elim
  · have no : CallR (Y.suite ad ((ad, oe) :: pn)) (.builtin "isinstance") (fun _ _ _ => False) := fun _ _ _ _ _ _ _ _ _ q => q.elim
    refine PE.imp (pe_callB no hg hm (by decide +kernel) (pa_cons (h s) (pa_cons ht pa_nil he2) he1) (by decide) (by decide) he1 hpl) fun σ H Q ⟨φ, ρ, S, re, rs, o⟩ => ?_
    refine ⟨φ, ρ, S, re, rs, Out.bind o fun x S1 φ1 H1 v e1 s1 r1 o1 => ?_⟩
    exfalso
    replace o1 := OutO.of o1
    cases x <;> first
      | exact False.elim o1
      | skip
    rename_i m ns ds
    unfold RepV at r1
    obtain ⟨a', cls', d', vs, rfl, hx, hmg, hd, hl, rl⟩ := r1
    cases hx
    by_cases hn : m = n
    · subst hn
      have h2 : Y.mg m = some cls := by rw [← s.mm]; exact hmg
      rw [hcn] at h2
      exact hcls (Option.some.inj h2).symm
    · unfold dIsE at o1
      simp only [if_neg hn] at o1
      exact o1.elim
end
end MP
end
section
set_option Elab.async false
set_option linter.all false
set_option maxRecDepth 100000
set_option maxHeartbeats 1000000
/-! MPG: least and greatest of a sequence, how many different ints, list(range(n)), xs[:0:-1], comprehensions of two clauses. -/
namespace MP
open PySem PySem.Spec PyProof.Rows L2
section
variable {X : Cx} {c : Cz} {W : WX} {a b d : Expr} {ea eb ed : Ev} {pos : Pos} {es : List Expr} {ra : EvA} {x : Str} {p : Pos}
/-! ### min, max -/
theorem call_minT (hc : X.calm = true) (hu : X.A.units + 64 < cLine) : CallR X (.builtin "min") (fun vs H Q => ∃ (l : Addr) (ns : List Int), vs = [V.ref l] ∧ SqT X.K H l (ns.map V.int) ∧ 0 < ns.length ∧ ∀ m, m ∈ ns → (∀ y, y ∈ ns → m ≤ y) → Q (.int m) H) := by
  intro pins s σ H vs us Q I r h
  obtain ⟨l, ns, rfl, hs, hn, q⟩ := h
  obtain ⟨its, rv, pt, _⟩ := I.tuple hs
  have pt' : s.heap.IsTuple l its.toArray := pt
  rw [Vals.ref1 r]
  match ns, hn with
  | n :: ns, _ =>
    have hi := PySem.W.HoldAll.of_ints (h := s.heap) (ints_of_vals rv)
    refine PySem.W.min_tuple_datum (I.ok.hd hc) pt' (x := n) (xs := ns) (by simpa using hi) (show X.A.units + 1 + 0 < cLine by omega) fun i v h' tk hv hh hk => ?_
    obtain ⟨as, hr⟩ := hh
    have hr' : Reads h' v (.int (PySem.W.minOf n ns)) as := hr
    cases hr'
    refine ⟨.int _, H, I.kept hk, ⟨_, rfl⟩, ?_⟩
    have key : ∀ (l : List Int) (z : Int), (l.foldl (fun a y => if PySem.W.DatumOrd.lt y a = true then y else a) z = z ∨ l.foldl (fun a y => if PySem.W.DatumOrd.lt y a = true then y else a) z ∈ l) ∧ l.foldl (fun a y => if PySem.W.DatumOrd.lt y a = true then y else a) z ≤ z ∧ ∀ y ∈ l, l.foldl (fun a y => if PySem.W.DatumOrd.lt y a = true then y else a) z ≤ y := by
      intro l
      induction l with
      | nil => intro z; exact ⟨.inl rfl, Int.le_refl _, by simp⟩
      | cons w l ih =>
        intro z
        obtain ⟨h1, h2, h3⟩ := ih (if PySem.W.DatumOrd.lt w z = true then w else z)
        have hl : PySem.W.DatumOrd.lt w z = decide (w < z) := rfl
        rw [List.foldl_cons]
        by_cases hw : w < z
        · rw [hl, decide_eq_true hw, if_pos rfl] at h1 h2 h3 ⊢
          exact ⟨.inr (by rcases h1 with e | e <;> simp [e]), by omega, fun y hy => by
            rcases List.mem_cons.mp hy with rfl | hy
            · exact h2
            · exact h3 y hy⟩
        · rw [hl, decide_eq_false hw, if_neg (by decide)] at h1 h2 h3 ⊢
          exact ⟨h1.imp id fun e => by simp [e], h2, fun y hy => by
            rcases List.mem_cons.mp hy with rfl | hy
            · omega
            · exact h3 y hy⟩
    obtain ⟨k1, k2, k3⟩ := key ns n
    refine q _ ?_ fun y hy => ?_
    · unfold PySem.W.minOf
      rcases k1 with e | e
      · rw [e]; simp
      · exact List.mem_cons_of_mem _ e
    · unfold PySem.W.minOf
      rcases List.mem_cons.mp hy with rfl | hy
      · exact k2
      · exact k3 y hy
def minI : List Int → Int
  | [] => 0
  | [n] => n
  | n :: ns => min n (minI ns)
def maxI : List Int → Int
  | [] => 0
  | [n] => n
  | n :: ns => max n (maxI ns)
theorem minI_spec : ∀ (n : Int) (ns : List Int), minI (n :: ns) ∈ n :: ns ∧ ∀ y ∈ n :: ns, minI (n :: ns) ≤ y
  | n, [] => by simp [minI]
  | n, m :: ns => by
    obtain ⟨h1, h2⟩ := minI_spec m ns
    rw [show minI (n :: m :: ns) = min n (minI (m :: ns)) from rfl]
    refine ⟨?_, fun y hy => ?_⟩
    · rcases Int.le_total n (minI (m :: ns)) with h | h
      · rw [Int.min_eq_left h]; simp
      · rw [Int.min_eq_right h]; exact List.mem_cons_of_mem _ h1
    · rcases List.mem_cons.mp hy with rfl | hy
      · exact Int.min_le_left _ _
      · exact Int.le_trans (Int.min_le_right _ _) (h2 y hy)
theorem maxI_spec : ∀ (n : Int) (ns : List Int), maxI (n :: ns) ∈ n :: ns ∧ ∀ y ∈ n :: ns, y ≤ maxI (n :: ns)
  | n, [] => by simp [maxI]
  | n, m :: ns => by
    obtain ⟨h1, h2⟩ := maxI_spec m ns
    rw [show maxI (n :: m :: ns) = max n (maxI (m :: ns)) from rfl]
    refine ⟨?_, fun y hy => ?_⟩
    · rcases Int.le_total n (maxI (m :: ns)) with h | h
      · rw [Int.max_eq_right h]; exact List.mem_cons_of_mem _ h1
      · rw [Int.max_eq_left h]; simp
    · rcases List.mem_cons.mp hy with rfl | hy
      · exact Int.le_max_left _ _
      · exact Int.le_trans (h2 y hy) (Int.le_max_right _ _)
def dMin : OpL := fun ds S => match ds with
  | [.int i, .int j] => some (.int (if j < i then j else i), S)
  | [d] => (itemsOf d S).bind fun xs => (intsOf xs).bind fun ns => if ns = [] then none else some (.int (minI ns), S)
  | _ => none
def dMax : OpL := fun ds S => match ds with
  | [.int i, .int j] => some (.int (if j > i then j else i), S)
  | [d] => if isTup d then none else (itemsOf d S).bind fun xs => (intsOf xs).bind fun ns => if ns = [] then none else some (.int (maxI ns), S)
  | _ => none
theorem ints_rel {H : Hp} {φ : List Addr} : ∀ {xs : List D} {us : List V} {ns : List Int}, RepL c H φ xs us → intsOf xs = some ns → us = ns.map V.int
  | [], us, ns, r, e => by
    unfold RepL at r
    subst r
    cases e
    rfl
  | x :: xs, us, ns, r, e => by
    unfold RepL at r
    obtain ⟨v, vr, rfl, r1, r2⟩ := r
    cases x <;> first
      | (cases e; done)
      | skip
    rename_i i
    unfold intsOf at e
    cases q : intsOf xs with
    | none => rw [q] at e; cases e
    | some ms =>
      rw [q] at e
      cases e
      unfold RepV at r1
      subst r1
      rw [ints_rel r2 q]
      rfl
theorem cd_min (hc : X.calm = true) (hu : X.A.units + 64 < cLine) : CallD X c (.builtin "min") dMin := fun kk => by
  refine CallR.imp (CallR.or (call_min2 hc) (CallR.or (cr_min hc) (call_minT hc hu))) fun vs H Q ⟨φ, S, ds, rs, r, o⟩ => ?_
  unfold dMin at o
  split at o
  · obtain ⟨v, w, rfl, r1, r2⟩ := r.two
    unfold RepV at r1 r2
    subst r1 r2
    exact .inl ⟨_, _, rfl, o φ H _ (.refl _ _) rs rep_int⟩
  · rename_i d
    obtain ⟨v, rfl, rv⟩ := r.one
    cases q1 : itemsOf d S with
    | none => rw [q1] at o; exact o.elim
    | some xs =>
      cases q2 : intsOf xs with
      | none => rw [q1, Option.bind_some, q2] at o; exact o.elim
      | some ns =>
        rw [q1, Option.bind_some, q2, Option.bind_some] at o
        match ns, q2, o with
        | [], _, o => exact o.elim
        | n :: ns, q2, o =>
          have o : OutO c H φ (RepV c) (some (D.int (minI (n :: ns)), S)) Q := o
          obtain ⟨q', us, rfl, k1, k2⟩ := items_at rs rv q1
          have eu := ints_rel k1 q2
          obtain ⟨m1, m2⟩ := minI_spec n ns
          have fin : ∀ m : Int, m ∈ n :: ns → (∀ y, y ∈ n :: ns → m ≤ y) → Q (.int m) H := fun m h1 h2 => by
            have : m = minI (n :: ns) := Int.le_antisymm (h2 _ m1) (m2 m h1)
            subst this
            exact o φ H _ (.refl _ _) rs rep_int
          refine .inr ?_
          rcases k2 with ⟨_, k2⟩ | ⟨_, k2⟩
          · exact .inl ⟨q', n :: ns, rfl, by rw [← kk, ← eu]; exact k2, by simp, fin⟩
          · exact .inr ⟨q', n :: ns, rfl, by rw [← kk, ← eu]; exact k2.sq, by simp, fin⟩
  · exact o.elim
theorem cd_max (hc : X.calm = true) : CallD X c (.builtin "max") dMax := fun kk => by
  refine CallR.imp (CallR.or (call_max2 hc) (cr_max hc)) fun vs H Q ⟨φ, S, ds, rs, r, o⟩ => ?_
  unfold dMax at o
  split at o
  · obtain ⟨v, w, rfl, r1, r2⟩ := r.two
    unfold RepV at r1 r2
    subst r1 r2
    exact .inl ⟨_, _, rfl, o φ H _ (.refl _ _) rs rep_int⟩
  · rename_i d
    obtain ⟨v, rfl, rv⟩ := r.one
    cases qt : isTup d with
    | true => rw [qt, if_pos rfl] at o; exact o.elim
    | false =>
      rw [qt, if_neg (by decide)] at o
      cases q1 : itemsOf d S with
      | none => rw [q1] at o; exact o.elim
      | some xs =>
        cases q2 : intsOf xs with
        | none => rw [q1, Option.bind_some, q2] at o; exact o.elim
        | some ns =>
          rw [q1, Option.bind_some, q2, Option.bind_some] at o
          match ns, q2, o with
          | [], _, o => exact o.elim
          | n :: ns, q2, o =>
            have o : OutO c H φ (RepV c) (some (D.int (maxI (n :: ns)), S)) Q := o
            obtain ⟨q', us, rfl, k1, k2⟩ := items_at rs rv q1
            have eu := ints_rel k1 q2
            obtain ⟨m1, m2⟩ := maxI_spec n ns
            have fin : ∀ m : Int, m ∈ n :: ns → (∀ y, y ∈ n :: ns → y ≤ m) → Q (.int m) H := fun m h1 h2 => by
              have : m = maxI (n :: ns) := Int.le_antisymm (m2 m h1) (h2 _ m1)
              subst this
              exact o φ H _ (.refl _ _) rs rep_int
            rcases k2 with ⟨_, k2⟩ | ⟨k3, k2⟩
            · exact .inr ⟨q', n :: ns, rfl, by rw [← kk, ← eu]; exact k2, by simp, fin⟩
            · rw [qt] at k3
              cases k3
  · exact o.elim
/-! ### len(set(t)) of a tuple of ints -/
def diff : List Int → List Int
  | [] => []
  | n :: ns => if n ∈ ns then diff ns else n :: diff ns
theorem diff_mem : ∀ (ns : List Int) (k : Int), k ∈ diff ns ↔ k ∈ ns
  | [], k => by simp [diff]
  | n :: ns, k => by
    unfold diff
    by_cases h : n ∈ ns
    · rw [if_pos h, diff_mem ns k, List.mem_cons]
      exact ⟨.inr, fun q => q.elim (fun e => e ▸ h) id⟩
    · rw [if_neg h, List.mem_cons, List.mem_cons, diff_mem ns k]
theorem diff_nodup : ∀ ns : List Int, (diff ns).Nodup
  | [] => List.nodup_nil
  | n :: ns => by
    unfold diff
    by_cases h : n ∈ ns
    · rw [if_pos h]; exact diff_nodup ns
    · rw [if_neg h, List.nodup_cons]
      exact ⟨fun q => h ((diff_mem ns n).mp q), diff_nodup ns⟩
theorem diff_le : ∀ ns : List Int, (diff ns).length ≤ ns.length
  | [] => Nat.le_refl _
  | n :: ns => by
    have := diff_le ns
    unfold diff
    split
    · simp; omega
    · simp; omega
theorem diff_self : ∀ ns : List Int, ns.Nodup → diff ns = ns
  | [], _ => rfl
  | n :: ns, h => by
    rw [List.nodup_cons] at h
    unfold diff
    rw [if_neg h.1, diff_self ns h.2]
theorem diff_iff (ns : List Int) : (diff ns).length = ns.length ↔ ns.Nodup := by
  constructor
  · induction ns with
    | nil => intro _; exact List.nodup_nil
    | cons n ns ih =>
      intro h
      have := diff_le ns
      unfold diff at h
      by_cases hm : n ∈ ns
      · rw [if_pos hm] at h
        simp at h
        omega
      · rw [if_neg hm] at h
        rw [List.nodup_cons]
        exact ⟨hm, ih (by simpa using h)⟩
  · intro h
    rw [diff_self ns h]
def tNum (K : PySem.W.Frag) (ta : TE) : TE := fun σ H Q => ta σ H fun x H1 => ∃ (l : Addr) (ns : List Int), x = .ref l ∧ SqT K H1 l (ns.map V.int) ∧ ns.length ≤ 4000 ∧ Q (.int ((diff ns).length : Nat)) H1
theorem pe_num {ta : TE} {p2 q : Pos} (hg : Gl X "len") (hm : X.mg "len" = none) (hg2 : Gl X "set") (hm2 : X.mg "set" = none) (ha : PE X a ta) (hc : X.calm = true := by rfl)
    (na : starEach [a] X.env = (false, eval a X.env) :: starEach [] X.env := by rfl) : PE X (.Call (.Name "len" p) [.Call (.Name "set" p2) [a] [] q] [] pos) (tNum X.K ta) := ⟨fun pins s σ H Q I h => by
  refine Call_ (ld_blt I hg hm boot_len ?_)
  refine PyProof.Rows.callWith_builtin1 (PyProof.Rows.args_cons ?_ rfl) rfl rfl
  refine Call_ (ld_blt I hg2 hm2 boot_set ?_)
  refine PyProof.Rows.callWith_type1 (PyProof.Rows.args_cons (thn (ha.run pins s σ H _ I h) fun v s1 ⟨x, H1, I1, r1, l, ns, e1, hq, hl, q1⟩ => PyProof.Rows.args_nil ?_) na) na rfl
  subst e1
  cases r1
  obtain ⟨its, rv, pt, hz⟩ := I1.tuple hq
  refine call_set_tupI ns (I1.ok.hd hc) (show s1.heap.IsTuple l its.toArray from pt) (ints_of_vals rv) (by unfold scanBound; omega) fun h' tk cc R hcn hk => ?_
  refine PyProof.Rows.args_nil ?_
  obtain ⟨o, es, ep, t, ho, hex, hd, g, nd, hmem, hb, hf, hn, hr, hl2⟩ := R
  have sz : es.size = (diff ns).length := by
    have p1 : (es.toList.map keyOf).Perm (diff ns) := by
      rw [List.perm_ext_iff_of_nodup nd (diff_nodup ns)]
      intro k
      rw [diff_mem, ← hmem k, decide_eq_true_eq]
    have := p1.length_eq
    rw [List.length_map, Array.length_toList] at this
    exact this
  have I2 : Inv X pins σ H1 { s1 with heap := h', toks := tk } := I1.kept fun b o e => hk b o e
  have := diff_le ns
  exact call_len_set ho hex hd hf (by rw [sz]; omega) ⟨.int (diff ns).length, H1, I2.tok _, ⟨_, by rw [sz]⟩, q1⟩⟩
def dNum : D → Sto → Option (D × Sto) := fun d S => match d with
  | .tup xs => (intsOf xs).bind fun ns => if ns.length ≤ 4000 then some (.int ((diff ns).length : Nat), S) else none
  | _ => none
theorem me_num {p2 q : Pos} (h : ME X c W a ea) (hm : X.mg "len" = none) (hm2 : X.mg "set" = none) (hg : Gl X "len" := by rfl) (hg2 : Gl X "set" := by rfl) (hc : X.calm = true := by rfl) (na : starEach [a] X.env = (false, eval a X.env) :: starEach [] X.env := by rfl) :
    ME X c W (.Call (.Name "len" p) [.Call (.Name "set" p2) [a] [] q] [] pos) (eU dNum ea) := fun s => by
  refine PE.imp (pe_num hg hm hg2 hm2 (h s) hc na) fun σ H Q ⟨φ, ρ, S, re, rs, o⟩ => ?_
  refine ⟨φ, ρ, S, re, rs, Out.bind o fun x S1 φ1 H1 v e1 s1 r1 o1 => ?_⟩
  replace o1 := OutO.of o1
  cases x <;> first
    | exact False.elim o1
    | skip
  rename_i xs
  have o1 : OutO c H1 φ1 (RepV c) ((intsOf xs).bind fun ns => if ns.length ≤ 4000 then some (D.int ((diff ns).length : Nat), S1) else none) Q := o1
  cases q : intsOf xs with
  | none => rw [q] at o1; exact o1.elim
  | some ns =>
    rw [q, Option.bind_some] at o1
    by_cases hl : ns.length ≤ 4000
    · rw [if_pos hl] at o1
      unfold RepV at r1
      obtain ⟨q', us, rfl, h1, h2⟩ := r1
      exact ⟨q', ns, rfl, by rw [← s.kk, ← ints_rel h2 q]; exact h1.sq, hl, o1 φ1 H1 _ (.refl _ _) s1 rep_int⟩
    · rw [if_neg hl] at o1
      exact o1.elim
/-! ### list(range(n)) -/
def dListRg : D → Sto → Option (D × Sto) := fun d S => match d with
  | .int n => if n < 1000000 ∧ -1000000 < n then some (.lst S.length, S ++ [rngL 0 n.toNat]) else none
  | _ => none
theorem rgV_rep {H : Hp} {φ : List Addr} (n : Int) : RepL c H φ (rngL 0 n.toNat) (rgV 0 n) := by
  have key : ∀ (l : List Nat), RepL c H φ (l.map fun (k : Nat) => D.int (0 + (k : Int))) (l.map fun (k : Nat) => V.int (0 + (k : Int))) := fun l => by
    induction l with
    | nil => exact .nil
    | cons k l ih => exact .cons (by unfold RepV; rfl) ih
  have e : rgV 0 n = (List.range n.toNat).map fun (k : Nat) => V.int (0 + (k : Int)) := by
    unfold rgV
    simp
  rw [e]
  exact key _
theorem me_listRg {p2 q : Pos} (h : ME X c W a ea) (hm : X.mg "list" = none) (hm2 : X.mg "range" = none) (hg : Gl X "list" := by rfl) (hg2 : Gl X "range" := by rfl) (hc : X.calm = true := by rfl) (na : starEach [a] X.env = (false, eval a X.env) :: starEach [] X.env := by rfl)
    (na2 : starEach [.Call (.Name "range" p2) [a] [] q] X.env = (false, eval (.Call (.Name "range" p2) [a] [] q) X.env) :: starEach [] X.env := by rfl) :
    ME X c W (.Call (.Name "list" p) [.Call (.Name "range" p2) [a] [] q] [] pos) (eU dListRg ea) := fun s => by
  refine PE.imp (pe_listRg hc hg hm (prg_1 hg2 hm2 (h s) na) na2) fun σ H Q ⟨φ, ρ, S, re, rs, o⟩ => ?_
  refine ⟨φ, ρ, S, re, rs, Out.bind o fun x S1 φ1 H1 v e1 s1 r1 o1 => ?_⟩
  replace o1 := OutO.of o1
  cases x <;> first
    | exact False.elim o1
    | skip
  rename_i n
  unfold RepV at r1
  subst r1
  unfold dListRg at o1
  by_cases hl : n < 1000000 ∧ -1000000 < n
  · simp only [if_pos hl] at o1
    refine ⟨n, rfl, ?_⟩
    first
      | exact ⟨⟨by omega, by omega, by omega, by omega, by omega⟩, new_list s1 (rgV_rep n) o1⟩
      | exact new_list s1 (rgV_rep n) o1
  · simp only [if_neg hl] at o1
    exact o1.elim
/-! ### xs[:0:-1] -/
theorem fm_map {α β : Type} {f : α → Option β} {g : α → β} : ∀ {l : List α}, (∀ k ∈ l, f k = some (g k)) → l.filterMap f = l.map g
  | [], _ => rfl
  | k :: l, h => by
    rw [List.filterMap_cons_some (h k (by simp)), fm_map fun j hj => h j (by simp [hj]), List.map_cons]
theorem pick_back (its : List Value) : slicePick its.toArray none (some 0) (some (-1)) = (its.drop 1).reverse.toArray := by
  unfold slicePick
  congr 1
  have hb : sliceBounds none (some 0) (some (-1)) its.toArray.size = ((its.length : Int) - 1, min 0 ((its.length : Int) - 1), -1) := by
    unfold sliceBounds
    simp
    try omega
  rw [hb]
  have hr : sliceRange ((its.length : Int) - 1) (min 0 ((its.length : Int) - 1)) (-1) = (List.range (its.length - 1)).map fun k => its.length - 1 - k := by
    unfold sliceRange
    rw [if_neg (by decide)]
    by_cases h : its.length = 0
    · simp [h]
      decide
    · by_cases h1 : its.length = 1
      · simp [h1]
      · have e : min 0 ((its.length : Int) - 1) = 0 := by omega
        have g : (its.length : Int) - 1 > 0 := by omega
        rw [e, if_pos g]
        have e2 : ((its.length : Int) - 1 - 0 - -1 - 1) / (- -1) = ((its.length - 1 : Nat) : Int) := by
          rw [show (- -1 : Int) = 1 by decide, Int.ediv_one]
          omega
        rw [e2]
        simp only [Int.toNat_natCast]
        refine List.map_congr_left fun k hk => ?_
        have := List.mem_range.mp hk
        omega
  simp only [hr]
  refine List.ext_getElem? fun i => ?_
  rw [List.filterMap_map]
  have hf : (List.range (its.length - 1)).filterMap ((fun x => its.toArray[x]?) ∘ fun k => its.length - 1 - k) = (List.range (its.length - 1)).map fun k => its[its.length - 1 - k]?.getD .none := by
    refine fm_map fun k hk => ?_
    have hk' := List.mem_range.mp hk
    have : its.length - 1 - k < its.length := by omega
    simp [List.getElem?_eq_getElem this]
  rw [hf, List.getElem?_map]
  by_cases hi : i < its.length - 1
  · rw [List.getElem?_range hi, List.getElem?_reverse (by simp; omega), List.getElem?_drop, List.length_drop]
    have e : 1 + (its.length - 1 - 1 - i) = its.length - 1 - i := by omega
    have : its.length - 1 - i < its.length := by omega
    rw [e]
    simp [List.getElem?_eq_getElem this]
  · rw [List.getElem?_eq_none (by simpa using hi), List.getElem?_eq_none (by simp; omega)]
    rfl
def tBack (K : PySem.W.Frag) (te : TE) : TE := fun σ H Q => te σ H fun x H1 => ∃ l us, x = .ref l ∧ SqL K H1 l us ∧ ∀ q, H1 q = none → Q (.ref q) (upd H1 q (.lst (us.drop 1).reverse))
theorem pe_back {te : TE} {k k2 : Nat} {p0 p1 p2 p3 : Pos} (he : PE X a te) : PE X (.Subscript a (.Slice none (some (.Constant (.int 0) k2 p0)) (some (.UnaryOp .USub (.Constant (.int 1) k p1) p2)) p3) pos) (tBack X.K te) := ⟨fun pins s σ H Q I h => by
  refine Subscript_ (thn (he.run pins s σ H _ I h) fun v s1 ⟨x, H1, I1, r1, l, us, ex, hx, q⟩ => ?_)
  subst ex
  cases r1
  have step : PO X (some (.UnaryOp .USub (.Constant (.int 1) k p1) p2)) (tPart (tUn (rU fun i => .int (-i)) (tC (.int 1)))) := po_some (pe_un un_neg pe_int)
  have top : PO X (some (.Constant (.int 0) k2 p0)) (tPart (tC (.int 0))) := po_some pe_int
  refine wpAny_Slice (thn (po_none.run pins s1 σ H1 (fun o H2 => o = none ∧ H2 = H1) I1 ⟨rfl, rfl⟩) fun vl s2 ⟨lo, H2, I2, pl, el, e2⟩ => ?_)
  subst el e2
  refine thn (top.run pins s2 σ H2 (fun o H3 => o = some 0 ∧ H3 = H2) I2 ⟨0, rfl, rfl, rfl⟩) fun vu s3 ⟨u, H3, I3, pu, eu, e3⟩ => ?_
  subst eu e3
  refine thn (step.run pins s3 σ H3 (fun o H4 => o = some (-1) ∧ H4 = H3) I3 ⟨1, rfl, -1, rfl, rfl, rfl⟩) fun vs s4 ⟨o, H4, I4, ps, eo, e4⟩ => ?_
  subst eo e4
  have I5 : Inv X pins σ H4 { s4 with heap := s4.heap.push { cls := .type "slice", data := .fields #[vl, vu, vs] } } :=
    I4.kept (t' := s4.toks) fun b ob q => Heap.get?_push_of_some _ q
  obtain ⟨its, r, ht, hz⟩ := I5.list hx
  have hlen := r.length
  show wpAny (model X.prog X.w) X.A (subscriptTail a (.Slice none (some (.Constant (.int 0) k2 p0)) (some (.UnaryOp .USub (.Constant (.int 1) k p1) p2)) p3) (.ref l) (.ref s4.heap.objs.size)) (EP X pins σ Q) X.xe
    { s4 with heap := s4.heap.push { cls := .type "slice", data := .fields #[vl, vu, vs] } }
  refine tail_any (ops := [.ref l, .ref s4.heap.objs.size]) ht.isList.typeIs (PySem.slot_list_getitem.lookup) ?_ (by with_unfolding_all rfl)
  refine wpAny_getItem_list_slice ht.isList (Heap.IsSliceOf.new _ vl vu vs) pl pu ps (by decide) ?_ (by rw [List.size_toArray]; omega)
  rw [pick_back]
  have hz2 : (us.drop 1).reverse.length ≤ sizeLine := by
    rw [List.length_reverse, List.length_drop]
    omega
  have rv : Vals (us.drop 1).reverse (its.drop 1).reverse := by
    have := r.drop 1
    exact this.reverse
  refine ⟨.ref _, _, I5.laid (t' := s4.toks) (o := .lst (us.drop 1).reverse) (fun b ob q => Heap.get?_push_of_some _ q) (Nat.le_refl _) ⟨hz2, _, 0, rv, Heap.get?_push_size _ rfl⟩, rfl, q _ (I5.hok.fresh (Nat.le_refl _))⟩⟩
def dBack (d : D) (S : Sto) : Option (D × Sto) := match d with
  | .lst l => (S[l]?).map fun xs => (.lst S.length, S ++ [(xs.drop 1).reverse])
  | _ => none
theorem me_back {k k2 : Nat} {p0 p1 p2 p3 : Pos} (h : ME X c W a ea) : ME X c W (.Subscript a (.Slice none (some (.Constant (.int 0) k2 p0)) (some (.UnaryOp .USub (.Constant (.int 1) k p1) p2)) p3) pos) (eU dBack ea) := fun s => by
  refine PE.imp (pe_back (h s)) fun σ H Q ⟨φ, ρ, S, re, rs, o⟩ => ?_
  refine ⟨φ, ρ, S, re, rs, Out.bind o fun x S1 φ1 H1 v e1 s1 r1 o1 => ?_⟩
  replace o1 := OutO.of o1
  cases x <;> first
    | exact False.elim o1
    | skip
  rename_i l
  unfold RepV at r1
  obtain ⟨a', rfl, h1, kd1⟩ := r1
  have o1 : OutO c H1 φ1 (RepV c) ((S1[l]?).map fun xs => (D.lst S1.length, S1 ++ [(xs.drop 1).reverse])) Q := o1
  cases q0 : S1[l]? with
  | none => rw [q0] at o1; exact o1.elim
  | some xs =>
    rw [q0] at o1
    obtain ⟨a2, us, g1, g2, g3⟩ := s1.at_ l xs q0 h1 kd1
    rw [h1] at g1
    cases g1
    exact ⟨a', us, rfl, SqL.of g2, new_list s1 (g3.drop 1).reverse o1⟩
end
end MP
end
section
set_option Elab.async false
set_option linter.all false
set_option maxRecDepth 100000
set_option maxHeartbeats 1000000
/-! MPH: comprehensions of two clauses. -/
namespace MP
open PySem PySem.Spec PyProof.Rows L2
/-- what the inner loop leaves, the outer one going on -/
noncomputable def goOn (r : Res (List D)) (k : List D → Sto → Res (List D)) : Res (List D) := match r with
  | .ok a S => k a S
  | _ => .stuck
open Classical in
noncomputable def lc2Loop (st : Sto → Prop) (b : D → Env → Option Env) (t : EvB) (src1 : Env → Sto → Res Src) (b1 : D → Env → Option Env) (t1 : EvB) (e : Ev) (vs1 : List Nat) (ρ : Env) : List D → List D → Sto → Res (List D)
  | [], acc, S => if st S then .ok acc S else .stuck
  | x :: xs, acc, S => if st S then (match b x ρ with
    | none => .stuck
    | some ρ1 => match t ρ1 S with
      | .ok k S1 => if k = true then (match src1 ρ1 S1 with
          | .ok z S2 => goOn (lcLoop z.st b1 t1 e (wipeE ρ1 vs1) z.xs acc S2) (lc2Loop st b t src1 b1 t1 e vs1 ρ xs)
          | .exc .. => .stuck
          | .stuck => .stuck) else lc2Loop st b t src1 b1 t1 e vs1 ρ xs acc S1
      | .exc .. => .stuck
      | .stuck => .stuck) else .stuck
noncomputable def eLc2 (src : Env → Sto → Res Src) (b : D → Env → Option Env) (t : EvB) (src1 : Env → Sto → Res Src) (b1 : D → Env → Option Env) (t1 : EvB) (e : Ev) (vs vs1 : List Nat) : Ev := fun ρ S => (src ρ S).bind fun z S1 => (lc2Loop z.st b t src1 b1 t1 e vs1 (wipeE ρ vs) z.xs [] S1).bind fun acc S2 => .ok (.lst S2.length) (S2 ++ [acc])
/-- a later heap, lists beside apart -/
structure ExtW (H : Hp) (φ : List Addr) (H' : Hp) (φ' : List Addr) : Prop where
  pre : φ <+: φ'
  keep : ∀ b o, H b = some o → b ∉ φ → (∀ vs, o ≠ .lst vs) → H' b = some o
  new : ∀ b, b ∈ φ' → b ∉ φ → ∀ o, H b = some o → ∃ vs, o = .lst vs
  kind : ∀ b, b ∈ φ → kindO (H' b) = kindO (H b)
theorem ExtW.lk {H H' : Hp} {φ φ' : List Addr} (e : ExtW H φ H' φ') {l n : Nat} {a : Addr} (hl : φ[l]? = some a) (hk : kindO (H a) = n) : kindO (H' a) = n := (e.kind a (List.mem_of_getElem? hl)).trans hk
theorem Ext.w {H H' : Hp} {φ φ' : List Addr} (e : Ext H φ H' φ') : ExtW H φ H' φ' := ⟨e.pre, fun b o h n _ => e.keep b o h n, fun b m n o h => (by
    rw [e.new b m n] at h
    cases h), e.kind⟩
theorem ExtW.trans {H H1 H2 : Hp} {φ φ1 φ2 : List Addr} (a : ExtW H φ H1 φ1) (b : ExtW H1 φ1 H2 φ2) : ExtW H φ H2 φ2 where
  pre := List.IsPrefix.trans a.pre b.pre
  keep := fun x o h n k => b.keep x o (a.keep x o h n k) (fun m => by
    obtain ⟨vs, e⟩ := a.new x m n o h
    exact k vs e) k
  new := fun x m n o h => by
    by_cases k : ∃ vs, o = .lst vs
    · exact k
    · have h1 := a.keep x o h n fun vs e => k ⟨vs, e⟩
      by_cases m1 : x ∈ φ1
      · exact a.new x m1 n o h
      · exact b.new x m m1 o h1
  kind := fun x h => (b.kind x (a.pre.subset h)).trans (a.kind x h)
section
variable {c : Cz} {H H' : Hp} {φ φ' : List Addr} {S : Sto}
theorem SqT.extW {K : PySem.W.Frag} (hφ : ∀ a, a ∈ φ → kindO (H a) ≠ 0) (e : ExtW H φ H' φ') {a : Addr} {xs : List V} (h : SqT K H a xs) : SqT K H' a xs := by
  rcases h with (h | ⟨o, h⟩) | h
  · exact .inl (.inl (e.keep _ _ h (not_in hφ h rfl) (fun _ q => by cases q)))
  · exact .inl (.inr ⟨o, e.keep _ _ h (not_in hφ h rfl) (fun _ q => by cases q)⟩)
  · exact .inr h
theorem SqN.extW {K : PySem.W.Frag} (hφ : ∀ a, a ∈ φ → kindO (H a) ≠ 0) (e : ExtW H φ H' φ') {a : Addr} {xs : List V} (h : SqN K H a xs) : SqN K H' a xs := by
  rcases h with ⟨o, h1, h⟩ | h
  · exact .inl ⟨o, h1, e.keep _ _ h (not_in hφ h rfl) (fun _ q => by cases q)⟩
  · exact .inr h
theorem Frz.extW {K : PySem.W.Frag} (hφ : ∀ a, a ∈ φ → kindO (H a) ≠ 0) (e : ExtW H φ H' φ') {a : Addr} {xs : List V} (h : Frz K H a xs) : Frz K H' a xs := by
  rcases h with ⟨o, h⟩ | h
  · exact .inl ⟨o, e.keep _ _ h (not_in hφ h rfl) (fun _ q => by cases q)⟩
  · exact .inr h
mutual
theorem RepV.extW (hφ : ∀ a, a ∈ φ → kindO (H a) ≠ 0) (e : ExtW H φ H' φ') : ∀ (d : D) (v : V), RepV c H φ d v → RepV c H' φ' d v
  | .non, _, h => by unfold RepV at h ⊢; exact h
  | .bl _, _, h => by unfold RepV at h ⊢; exact h
  | .int _, _, h => by unfold RepV at h ⊢; exact h
  | .str _, _, h => by unfold RepV at h ⊢; exact h
  | .tup ds, _, h => by
    unfold RepV at h ⊢
    obtain ⟨a, xs, e1, e2, e3⟩ := h
    exact ⟨a, xs, e1, SqN.extW hφ e e2, RepL.extW hφ e ds xs e3⟩
  | .wk ds, _, h => by
    unfold RepV at h ⊢
    obtain ⟨a, xs, e1, e2, e3⟩ := h
    exact ⟨a, xs, e1, SqT.extW hφ e e2, RepL.extW hφ e ds xs e3⟩
  | .lst l, _, h => by
    unfold RepV at h ⊢
    obtain ⟨a, e1, e2, e3⟩ := h
    exact ⟨a, e1, pre_get e.pre e2, e.lk e2 e3⟩
  | .dct l, _, h => by
    unfold RepV at h ⊢
    obtain ⟨a, e1, e2, e3⟩ := h
    exact ⟨a, e1, pre_get e.pre e2, e.lk e2 e3⟩
  | .dtt l, _, h => by
    unfold RepV at h ⊢
    obtain ⟨a, e1, e2, e3⟩ := h
    exact ⟨a, e1, pre_get e.pre e2, e.lk e2 e3⟩
  | .err n ns ds, _, h => by
    unfold RepV at h ⊢
    obtain ⟨a, C, d, vs, e1, e2, e3, e4, e5, e6⟩ := h
    exact ⟨a, C, d, vs, e1, e2, e.keep _ _ e3 (not_in hφ e3 rfl) (fun _ q => by cases (show HO.ext _ = HO.lst _ from q)), e.keep _ _ e4 (not_in hφ e4 rfl) (fun _ q => by cases (show HO.ext _ = HO.lst _ from q)), e5, RepL.extW hφ e ds vs e6⟩
  | .frl ds, _, h => by
    unfold RepV at h ⊢
    obtain ⟨a, xs, e1, e2, e3⟩ := h
    exact ⟨a, xs, e1, Frz.extW hφ e e2, RepL.extW hφ e ds xs e3⟩
  | .exn n ns ds, _, h => by
    unfold RepV at h ⊢
    obtain ⟨a, cls, d, vs, e1, e2, e3, e4, e5, e6⟩ := h
    exact ⟨a, cls, d, vs, e1, e2, e3, e.keep _ _ e4 (not_in hφ e4 rfl) (fun _ q => by cases q), e5, RepL.extW hφ e ds vs e6⟩
theorem RepL.extW (hφ : ∀ a, a ∈ φ → kindO (H a) ≠ 0) (e : ExtW H φ H' φ') : ∀ (ds : List D) (vs : List V), RepL c H φ ds vs → RepL c H' φ' ds vs
  | [], _, h => by unfold RepL at h ⊢; exact h
  | d :: ds, _, h => by
    unfold RepL at h ⊢
    obtain ⟨v, vr, e1, e2, e3⟩ := h
    exact ⟨v, vr, e1, RepV.extW hφ e d v e2, RepL.extW hφ e ds vr e3⟩
end
end
/-! what is walked in an inner clause -/
def ItOkW (c : Cz) (z : Src) (J : It) (H : Hp) (φ : List Addr) : Prop :=
  ∀ (H2 : Hp) (φ2 : List Addr) (S2 : Sto) (i : Nat), ExtW H φ H2 φ2 → RepS c H2 φ2 S2 → z.st S2 →
    (∀ x, z.xs[i]? = some x → J.go i H2 ∧ ∀ v H3, J.yld i H2 v H3 → Ext H2 φ2 H3 φ2 ∧ RepS c H3 φ2 S2 ∧ RepV c H3 φ2 x v) ∧ (z.xs.length ≤ i → J.stop i H2)
def TImW (c : Cz) (W : WX) (ev : Env → Sto → Res Src) : TI := fun σ H R => ∃ φ ρ S, RepE c H φ ρ σ ∧ RepS c H φ S ∧ Out c H φ (fun H' φ' z J => ItOkW c z J H' φ') (ev ρ S) R (fun cls d H' => W cls d σ H')
def MIW (X : Cx) (c : Cz) (W : WX) (tg iter : Expr) (ev : Env → Sto → Res Src) : Prop := Sh X c W → PI X tg iter (TImW c W ev)
section
variable {X : Cx} {c : Cz} {W : WX} {a b d : Expr} {ea eb ed : Ev} {pos : Pos} {tg tg1 : Expr}
theorem itl_okW {z : Src} {a : Addr} {H : Hp} {φ : List Addr} (h : ∀ H2 φ2 S2, ExtW H φ H2 φ2 → RepS c H2 φ2 S2 → z.st S2 → ∃ us, SqL c.K H2 a us ∧ RepL c H2 φ2 z.xs us) : ItOkW c z (Itl c.K a) H φ := by
  intro H2 φ2 S2 i e s hst
  obtain ⟨us, sq, rl⟩ := h H2 φ2 S2 e s hst
  refine ⟨fun x hx => ?_, fun hl => ⟨us, sq, by rw [← rl.length]; exact hl⟩⟩
  obtain ⟨v, hv, rv⟩ := rl.get hx
  refine ⟨⟨us, v, sq, hv⟩, fun v' H3 ⟨e3, y⟩ => ?_⟩
  subst e3
  have := y us sq
  rw [hv] at this
  cases this
  exact ⟨.refl _ _, s, rv⟩
theorem itt_okW {z : Src} {a : Addr} {H : Hp} {φ : List Addr} (h : ∀ H2 φ2 S2, ExtW H φ H2 φ2 → RepS c H2 φ2 S2 → z.st S2 → ∃ us, SqT c.K H2 a us ∧ RepL c H2 φ2 z.xs us) : ItOkW c z (Itt c.K a) H φ := by
  intro H2 φ2 S2 i e s hst
  obtain ⟨us, sq, rl⟩ := h H2 φ2 S2 e s hst
  refine ⟨fun x hx => ?_, fun hl => ⟨us, sq, by rw [← rl.length]; exact hl⟩⟩
  obtain ⟨v, hv, rv⟩ := rl.get hx
  refine ⟨⟨us, v, sq, hv⟩, fun v' H3 ⟨e3, y⟩ => ?_⟩
  subst e3
  have := y us sq
  rw [hv] at this
  cases this
  exact ⟨.refl _ _, s, rv⟩
theorem src_atW {d : D} {v : V} {z : Src} {H : Hp} {φ : List Addr} {S : Sto} (rs : RepS c H φ S) (r : RepV c H φ d v) (e : srcOf d S = some z) :
    ∃ a, v = .ref a ∧ ((∃ us, SqL c.K H a us ∧ (∀ H2 φ2 S2, ExtW H φ H2 φ2 → RepS c H2 φ2 S2 → z.st S2 → ∃ us, SqL c.K H2 a us ∧ RepL c H2 φ2 z.xs us)) ∨
      (∃ us, SqT c.K H a us ∧ (∀ H2 φ2 S2, ExtW H φ H2 φ2 → RepS c H2 φ2 S2 → z.st S2 → ∃ us, SqT c.K H2 a us ∧ RepL c H2 φ2 z.xs us))) := by
  cases d <;> first
    | (cases e; done)
    | skip
  · rename_i xs
    cases e
    unfold RepV at r
    obtain ⟨a, us, rfl, sq, rl⟩ := r
    exact ⟨a, rfl, .inr ⟨us, sq.sq, fun H2 φ2 S2 e s _ => ⟨us, SqT.extW rs.ls e sq.sq, RepL.extW rs.ls e _ _ rl⟩⟩⟩
  · rename_i l
    unfold RepV at r
    obtain ⟨a, rfl, hl, hkd⟩ := r
    have e : (S[l]?).map (fun xs => (⟨xs, fun S' => S'[l]? = some xs⟩ : Src)) = some z := e
    cases q : S[l]? with
    | none => rw [q] at e; cases e
    | some xs =>
      rw [q] at e
      cases e
      obtain ⟨a', us, h1, h2, h3⟩ := rs.at_ l xs q hl hkd
      rw [hl] at h1
      cases h1
      refine ⟨a, rfl, .inl ⟨us, SqL.of h2, fun H2 φ2 S2 e s hst => ?_⟩⟩
      obtain ⟨a2, us2, g1, g2, g3⟩ := s.at_ l xs hst (pre_get e.pre hl) (e.lk hl hkd)
      rw [pre_get e.pre hl] at g1
      cases g1
      exact ⟨us2, SqL.of g2, g3⟩
  · rename_i xs
    cases e
    unfold RepV at r
    obtain ⟨a, us, rfl, sq, rl⟩ := r
    exact ⟨a, rfl, .inl ⟨us, sq.sq, fun H2 φ2 S2 e s _ => ⟨us, (Frz.extW rs.ls e sq).sq, RepL.extW rs.ls e _ _ rl⟩⟩⟩
theorem miw_seq (h : ME X c W a ea) : MIW X c W tg a (iSeq ea) := fun s => by
  refine PI.imp (pi_either (h s)) fun σ H R ⟨φ, ρ, S, re, rs, o⟩ => ?_
  refine ⟨φ, ρ, S, re, rs, Out.bind o fun x S1 φ1 H1 v e1 s1 r1 o1 => ?_⟩
  cases eq : srcOf x S1 with
  | none => rw [eq] at o1; exact o1.elim
  | some z =>
    rw [eq] at o1
    obtain ⟨a', rfl, q⟩ := src_atW s1 r1 eq
    rw [← s.kk]
    refine ⟨a', rfl, ?_⟩
    rcases q with ⟨us, sq, k⟩ | ⟨us, sq, k⟩
    · exact .inl ⟨us, sq, o1 φ1 H1 _ (.refl _ _) s1 (itl_okW k)⟩
    · exact .inr ⟨us, sq, o1 φ1 H1 _ (.refl _ _) s1 (itt_okW k)⟩
theorem itr_okW {lo : Int} {n : Nat} {H : Hp} {φ : List Addr} : ItOkW c ⟨rngL lo n, fun _ => True⟩ (Itr lo n) H φ := by
  intro H2 φ2 S2 i e s _
  refine ⟨fun x hx => ?_, fun hl => by rw [rngL_length] at hl; exact hl⟩
  obtain ⟨hi, rfl⟩ := rngL_get hx
  refine ⟨hi, fun v H3 ⟨e3, ev⟩ => ?_⟩
  subst e3 ev
  exact ⟨.refl _ _, s, by unfold RepV; rfl⟩
theorem miw_range1 {ra : EvA} {p : Pos} (h : MA X c W [a] ra) (hm : X.mg "range" = none) (hg : Gl X "range" := by rfl) (hs : starEach [a] X.env = [(false, eval a X.env)] := by rfl) : MIW X c W tg (.Call (.Name "range" p) [a] [] pos) (iRange rng1 ra) := fun s => by
  refine PI.imp (pi_range1 hg hm (h s) hs) fun σ H R ⟨φ, ρ, S, re, rs, o⟩ => ?_
  refine ⟨φ, ρ, S, re, rs, Out.bind o fun x S1 φ1 H1 v e1 s1 r1 o1 => ?_⟩
  unfold rng1 at o1
  split at o1
  · rename_i j
    split at o1
    · rename_i hj
      obtain ⟨v1, rfl, r2⟩ := r1.one
      unfold RepV at r2
      subst r2
      exact ⟨j, rfl, hj.2, hj.1, o1 φ1 H1 _ (.refl _ _) s1 itr_okW⟩
    · exact o1.elim
  · exact o1.elim
theorem miw_range2 {ra : EvA} {p : Pos} (h : MA X c W [a, b] ra) (hm : X.mg "range" = none) (hg : Gl X "range" := by rfl) (hs : starEach [a, b] X.env = [(false, eval a X.env), (false, eval b X.env)] := by rfl) (hs2 : starEach [b] X.env = [(false, eval b X.env)] := by rfl) :
    MIW X c W tg (.Call (.Name "range" p) [a, b] [] pos) (iRange rng2 ra) := fun s => by
  refine PI.imp (pi_range2 hg hm (h s) hs hs2) fun σ H R ⟨φ, ρ, S, re, rs, o⟩ => ?_
  refine ⟨φ, ρ, S, re, rs, Out.bind o fun x S1 φ1 H1 v e1 s1 r1 o1 => ?_⟩
  unfold rng2 at o1
  split at o1
  · rename_i i j
    split at o1
    · rename_i hj
      obtain ⟨v1, v2, rfl, r2, r4⟩ := r1.two
      unfold RepV at r2 r4
      subst r2 r4
      exact ⟨i, j, rfl, ⟨hj.1.2, hj.1.1, hj.2.2, hj.2.1⟩, o1 φ1 H1 _ (.refl _ _) s1 itr_okW⟩
    · exact o1.elim
  · exact o1.elim
end
section
variable {X : Cx} {c : Cz} {W : WX} {a b d : Expr} {ea eb ed : Ev} {pos : Pos} {tg tg1 : Expr}
theorem extE {H H' : Hp} {φ φ' : List Addr} {S : Sto} {ρ : Env} {σ : St} (r : RepE c H φ ρ σ) (rs : RepS c H φ S) (e : ExtW H φ H' φ') : RepE c H' φ' ρ σ := ⟨r.1, fun i d q => by
  obtain ⟨v, h1, h2⟩ := r.2 i d q
  exact ⟨v, h1, RepV.extW rs.ls e _ _ h2⟩⟩
theorem lc2_read {σ : St} {H : Hp} {Q : VK} {src src1 : Env → Sto → Res Src} {g g1 : D → Env → Option Env} {vs vs1 own : List Nat} {et et1 : EvB} {ee : Ev} (hv : ∀ j ∈ vs, j ∈ own)
    (h : TEm c W (eLc2 src g et src1 g1 et1 ee own vs1) σ H Q) : tLc2 (TIm c W src) (TGm c vs g) (TTm c W0 et) (TImW c W0 src1) (TGm c vs1 g1) (TTm c W0 et1) (TEm c W0 ee) own vs1 σ H Q := by
  obtain ⟨φ, ρ, S, re, rs, o⟩ := h
  refine ⟨φ, ρ, S, re, rs, Out.bind o fun z S1 φ1 H1 J e1 s1 it o1 => ?_⟩
  have re1 := re.ext rs e1
  intro D' hD
  have npD : D' ∉ φ1 := fun m => by
    have q := s1.isl m
    rw [hD] at q
    exact q rfl
  have e0 : Ext H1 φ1 (upd H1 D' (.lst [])) φ1 := (s1.keep (upd_keep hD)).2
  refine ⟨fun i m H2 => m = z.xs.length - i ∧ i ≤ z.xs.length ∧ ∃ φ2 S2 acc us, Ext H1 φ1 H2 φ2 ∧ RepS c H2 φ2 S2 ∧ H2 D' = some (.lst us) ∧ D' ∉ φ2 ∧ RepL c H2 φ2 acc us ∧
      Out c H1 φ1 (RepV c) ((lc2Loop z.st g et src1 g1 et1 ee vs1 (wipeE ρ own) (z.xs.drop i) acc S2).bind fun acc S2 => .ok (.lst S2.length) (S2 ++ [acc])) Q (fun cls d H' => W cls d σ H'),
    ⟨z.xs.length, by simp, Nat.zero_le _, φ1, S1, [], [], e0, (s1.keep (upd_keep hD)).1, upd_same, npD, .nil, o1⟩, ?_⟩
  rintro i m H2 ⟨rfl, hle, φ2, S2, acc, us, e2, s2, h2D, n2D, ra, o2⟩
  by_cases hlt : i < z.xs.length
  · refine .inr ?_
    have hx : z.xs[i]? = some z.xs[i] := List.getElem?_eq_getElem hlt
    rw [List.drop_eq_getElem_cons hlt] at o2
    unfold lc2Loop at o2
    split at o2
    · rename_i hst
      obtain ⟨go, yl⟩ := (it H2 φ2 S2 i e2 s2 hst).1 _ hx
      split at o2
      · exact o2.elim
      · rename_i ρ3 eg
        refine ⟨go, fun H' => i + 1 ≤ z.xs.length ∧ ∃ φ2 S2 acc us, Ext H1 φ1 H' φ2 ∧ RepS c H' φ2 S2 ∧ H' D' = some (.lst us) ∧ D' ∉ φ2 ∧ RepL c H' φ2 acc us ∧
            Out c H1 φ1 (RepV c) ((lc2Loop z.st g et src1 g1 et1 ee vs1 (wipeE ρ own) (z.xs.drop (i + 1)) acc S2).bind fun acc S2 => .ok (.lst S2.length) (S2 ++ [acc])) Q (fun cls d H' => W cls d σ H'),
          fun H' n => ⟨z.xs.length - (i + 1), by omega, rfl, n⟩, fun v H3 y => ?_⟩
        obtain ⟨e3, s3, r3⟩ := yl v H3 y
        obtain ⟨h3D, n3D⟩ := e3.stays h2D n2D
        have ra3 := RepL.ext s2.ls e3 _ _ ra
        have e13 := e2.trans e3
        refine ⟨φ2, wipeE ρ own, S2, _, ρ3, (re1.ext s1 e13).wipe own, s3, r3, eg, fun σ3 re3 sb => ⟨?_, φ2, ρ3, S2, re3, s3, ?_⟩⟩
        · have := wipe_eq own (σ := wipe σ own) (σ' := σ3) sb.1 fun j hj => sb.2 j fun q => hj (hv j q)
          rw [this]
          exact wipe_eq own (by rw [wipe_length]) fun j hj => (wipe_at own σ j).2 hj
        · revert o2
          cases et ρ3 S2 with
          | ok k S4 =>
            intro o2 φ4 H4 k' e4 s4 hk
            unfold eqB at hk
            subst hk
            obtain ⟨h4D, n4D⟩ := e4.stays h3D n3D
            have ra4 := RepL.ext s3.ls e4 _ _ ra3
            have e14 := e13.trans e4
            have re4 := re3.ext s3 e4
            cases k with
            | true =>
              refine iteT ⟨φ4, ρ3, S4, re4, s4, ?_⟩
              have o2 : Out c H1 φ1 (RepV c) ((match src1 ρ3 S4 with
                | .ok z1 S2 => goOn (lcLoop z1.st g1 et1 ee (wipeE ρ3 vs1) z1.xs acc S2) (lc2Loop z.st g et src1 g1 et1 ee vs1 (wipeE ρ own) (z.xs.drop (i + 1)))
                | .exc .. => .stuck
                | .stuck => .stuck : Res (List D)).bind fun acc S2 => .ok (.lst S2.length) (S2 ++ [acc])) Q (fun cls d H' => W cls d σ H') := o2
              revert o2
              cases src1 ρ3 S4 with
              | ok z1 S5 =>
                intro o2 φ5 H5 J1 e5 s5 it1
                obtain ⟨h5D, n5D⟩ := e5.stays h4D n4D
                have ra5 := RepL.ext s4.ls e5 _ _ ra4
                have e15 := e14.trans e5
                have re5 := re4.ext s4 e5
                refine ⟨fun j m H => m = z1.xs.length - j ∧ j ≤ z1.xs.length ∧ ∃ φ6 S6 acc us, ExtW H5 φ5 H φ6 ∧ Ext H1 φ1 H φ6 ∧ RepS c H φ6 S6 ∧ H D' = some (.lst us) ∧ D' ∉ φ6 ∧ RepL c H φ6 acc us ∧
                    Out c H1 φ1 (RepV c) ((goOn (lcLoop z1.st g1 et1 ee (wipeE ρ3 vs1) (z1.xs.drop j) acc S6) (lc2Loop z.st g et src1 g1 et1 ee vs1 (wipeE ρ own) (z.xs.drop (i + 1)))).bind fun acc S2 => .ok (.lst S2.length) (S2 ++ [acc])) Q (fun cls d H' => W cls d σ H'),
                  ⟨z1.xs.length, by simp, Nat.zero_le _, φ5, S5, acc, us, (Ext.refl _ _).w, e15, s5, h5D, n5D, ra5, o2⟩, ?_⟩
                rintro j m H6 ⟨rfl, hle1, φ6, S6, acc6, us6, e56, e16, s6, h6D, n6D, ra6, o6⟩
                by_cases hlt1 : j < z1.xs.length
                · refine .inr ?_
                  have hx1 : z1.xs[j]? = some z1.xs[j] := List.getElem?_eq_getElem hlt1
                  rw [List.drop_eq_getElem_cons hlt1] at o6
                  unfold lcLoop at o6
                  split at o6
                  · rename_i hst1
                    obtain ⟨go1, yl1⟩ := (it1 H6 φ6 S6 j e56 s6 hst1).1 _ hx1
                    split at o6
                    · exact o6.elim
                    · rename_i ρ7 eg1
                      refine ⟨go1, fun H' => j + 1 ≤ z1.xs.length ∧ ∃ φ6 S6 acc us, ExtW H5 φ5 H' φ6 ∧ Ext H1 φ1 H' φ6 ∧ RepS c H' φ6 S6 ∧ H' D' = some (.lst us) ∧ D' ∉ φ6 ∧ RepL c H' φ6 acc us ∧
                          Out c H1 φ1 (RepV c) ((goOn (lcLoop z1.st g1 et1 ee (wipeE ρ3 vs1) (z1.xs.drop (j + 1)) acc S6) (lc2Loop z.st g et src1 g1 et1 ee vs1 (wipeE ρ own) (z.xs.drop (i + 1)))).bind fun acc S2 => .ok (.lst S2.length) (S2 ++ [acc])) Q (fun cls d H' => W cls d σ H'),
                        fun H' n => ⟨z1.xs.length - (j + 1), by omega, rfl, n⟩, fun v7 H7 y7 => ?_⟩
                      obtain ⟨e7, s7, r7⟩ := yl1 v7 H7 y7
                      obtain ⟨h7D, n7D⟩ := e7.stays h6D n6D
                      have ra7 := RepL.ext s6.ls e7 _ _ ra6
                      have re7 := (extE re5 s5 (e56.trans e7.w)).wipe vs1
                      refine ⟨φ6, wipeE ρ3 vs1, S6, _, ρ7, re7, s7, r7, eg1, fun σ7 re7 sb7 => ⟨?_, φ6, ρ7, S6, re7, s7, ?_⟩⟩
                      · have := wipe_eq vs1 (σ := wipe σ3 vs1) (σ' := σ7) sb7.1 fun j hj => sb7.2 j fun q => hj q
                        rw [this]
                        exact wipe_eq vs1 (by rw [wipe_length]) fun j hj => (wipe_at vs1 σ3 j).2 hj
                      · revert o6
                        cases et1 ρ7 S6 with
                        | ok k7 S8 =>
                          intro o6 φ8 H8 k8 e8 s8 hk8
                          unfold eqB at hk8
                          subst hk8
                          obtain ⟨h8D, n8D⟩ := e8.stays h7D n7D
                          have ra8 := RepL.ext s7.ls e8 _ _ ra7
                          cases k7 with
                          | true =>
                            refine iteT ⟨φ8, ρ7, S8, re7.ext s7 e8, s8, ?_⟩
                            have o6 : Out c H1 φ1 (RepV c) ((goOn (match ee ρ7 S8 with
                              | .ok d S2 => if acc6.length < 1000000 then lcLoop z1.st g1 et1 ee (wipeE ρ3 vs1) (z1.xs.drop (j + 1)) (acc6 ++ [d]) S2 else .stuck
                              | .exc .. => .stuck
                              | .stuck => .stuck) (lc2Loop z.st g et src1 g1 et1 ee vs1 (wipeE ρ own) (z.xs.drop (i + 1)))).bind fun acc S2 => .ok (.lst S2.length) (S2 ++ [acc])) Q (fun cls d H' => W cls d σ H') := o6
                            revert o6
                            cases ee ρ7 S8 with
                            | ok d S9 =>
                              intro o6 φ9 H9 y9 e9 s9 r9
                              obtain ⟨h9D, n9D⟩ := e9.stays h8D n8D
                              have ra9 := RepL.ext s8.ls e9 _ _ ra8
                              have e79 := e7.trans (e8.trans e9)
                              by_cases hlen : acc6.length < 1000000
                              · simp only [if_pos hlen] at o6
                                refine ⟨us6, h9D, ?_, hlt1, φ9, S9, acc6 ++ [d], us6 ++ [y9], ?_, ?_, s9.aside h9D n9D, upd_same, n9D, RepL.aside h9D _ _ (ra9.append (.cons r9 .nil)), o6⟩
                                · rw [← ra6.length]
                                  exact Nat.lt_trans hlen (by decide)
                                · have e59 := e56.trans e79.w
                                  refine ⟨e59.pre, fun b o hb nb k => ?_, e59.new, fun b hb => (kind_aside h9D b).trans (e59.kind b hb)⟩
                                  have hbD : b ≠ D' := fun q => by
                                    subst q
                                    rw [h5D] at hb
                                    cases hb
                                    exact k _ rfl
                                  rw [upd_ne hbD]
                                  exact e59.keep b o hb nb k
                                · have e19 := e16.trans e79
                                  refine ⟨e19.pre, fun b o hb nb => ?_, e19.new, fun b hb => (kind_aside h9D b).trans (e19.kind b hb), fun b q u hb => by rw [upd_ne (ne_of_none hb hD)]; exact e19.lock b q u hb⟩
                                  rw [upd_ne (ne_of_none hb hD)]
                                  exact e19.keep b o hb nb
                              · simp only [if_neg hlen] at o6
                                exact o6.elim
                            | exc n ns ds S9 => intro o6; exact o6.elim
                            | stuck => intro o6; exact o6.elim
                          | false =>
                            exact iteF ⟨hlt1, φ8, S8, acc6, us6, e56.trans (e7.trans e8).w, e16.trans (e7.trans e8), s8, h8D, n8D, ra8, o6⟩
                        | exc n ns ds S8 => intro o6; exact o6.elim
                        | stuck => intro o6; exact o6.elim
                  · exact o6.elim
                · refine .inl ?_
                  have : z1.xs.drop j = [] := List.drop_eq_nil_of_le (by omega)
                  rw [this] at o6
                  unfold lcLoop at o6
                  split at o6
                  · rename_i hst1
                    exact ⟨(it1 H6 φ6 S6 j e56 s6 hst1).2 (by omega), hlt, φ6, S6, acc6, us6, e16, s6, h6D, n6D, ra6, o6⟩
                  · exact o6.elim
              | exc n ns ds S5 => intro o2; exact o2.elim
              | stuck => intro o2; exact o2.elim
            | false =>
              exact iteF ⟨hlt, φ4, S4, acc, us, e14, s4, h4D, n4D, ra4, o2⟩
          | exc n ns ds S4 => intro o2; exact o2.elim
          | stuck => intro o2; exact o2.elim
    · exact o2.elim
  · refine .inl ?_
    have : z.xs.drop i = [] := List.drop_eq_nil_of_le (by omega)
    rw [this] at o2
    unfold lc2Loop at o2
    split at o2
    · rename_i hst
      refine ⟨(it H2 φ2 S2 i e2 s2 hst).2 (by omega), o2 (φ2 ++ [D']) H2 _ ?_ (s2.adopt h2D n2D ra) ?_⟩
      · refine ⟨e2.pre.trans (List.prefix_append _ _), e2.keep, fun b hb nb => ?_, e2.kind, e2.lock⟩
        rcases List.mem_append.mp hb with hb | hb
        · exact e2.new b hb nb
        · simp at hb
          subst hb
          exact hD
      · unfold RepV
        refine ⟨D', rfl, ?_, by rw [h2D]; rfl⟩
        rw [← s2.len, List.getElem?_append_right (Nat.le_refl _)]
        simp
    · exact o2.elim
theorem me_lc2 {elt tg iter tg1 iter1 : Expr} {ifs ifs1 : List Expr} {scope : Scope} {own : List (Str × Nat)} {src src1 : Env → Sto → Res Src} {g g1 : D → Env → Option Env} {vs vs1 : List Nat} {et et1 : EvB} {ee : Ev}
    (hi : MI X c W tg iter src) (ok : BlkOk X.N X.env.scope scope own) (hg : ∀ (s : Shared) (H : Hp) (C : Addr) (cl : List (Str × Addr)) (fp : List Addr), MG (X.blk s H scope (compEnvC scope cl C X.env) fp) c tg vs g)
    (ht : ∀ (s : Shared) (H : Hp) (C : Addr) (cl : List (Str × Addr)) (fp : List Addr), MTs (X.blk s H scope (compEnvC scope cl C X.env) fp) c W0 ifs et)
    (hi1 : ∀ (s : Shared) (H : Hp) (C : Addr) (cl : List (Str × Addr)) (fp : List Addr), MIW (X.blk s H scope (compEnvC scope cl C X.env) fp) c W0 tg1 iter1 src1)
    (hg1 : ∀ (s : Shared) (H : Hp) (C : Addr) (cl : List (Str × Addr)) (fp : List Addr), MG (X.blk s H scope (compEnvC scope cl C X.env) fp) c tg1 vs1 g1)
    (ht1 : ∀ (s : Shared) (H : Hp) (C : Addr) (cl : List (Str × Addr)) (fp : List Addr), MTs (X.blk s H scope (compEnvC scope cl C X.env) fp) c W0 ifs1 et1)
    (he : ∀ (s : Shared) (H : Hp) (C : Addr) (cl : List (Str × Addr)) (fp : List Addr), ME (X.blk s H scope (compEnvC scope cl C X.env) fp) c W0 elt ee)
    (hv : ∀ j ∈ vs, j ∈ own.map (·.2)) (hv1 : ∀ j ∈ vs1, j ∈ own.map (·.2)) (hc : X.calm = true := by rfl) (hs : ∀ x, foldedSetIterable iter X.env x = pure x := by intro _; rfl) (hs1 : ∀ env x, foldedSetIterable iter1 env x = pure x := by intro _ _; rfl) :
    ME X c W (.ListComp elt [⟨tg, iter, ifs, 0⟩, ⟨tg1, iter1, ifs1, 0⟩] scope pos) (eLc2 src g et src1 g1 et1 ee (own.map (·.2)) vs1) := fun s => by
  refine PE.imp (pe_lc2 hc s.nd (hi s) ok hv1 (fun s' H C cl fp => hg s' H C cl fp s.kk s.nd) (fun s' H C cl fp => ht s' H C cl fp (s.blk ..)) (fun s' H C cl fp => hi1 s' H C cl fp (s.blk ..)) (fun s' H C cl fp => hg1 s' H C cl fp s.kk s.nd) (fun s' H C cl fp => ht1 s' H C cl fp (s.blk ..)) (fun s' H C cl fp => he s' H C cl fp (s.blk ..)) hs hs1) fun σ H Q h => ?_
  exact lc2_read hv h
theorem ms_setLc2 (i : Nat) {y : Str} {py : Pos} {elt tg iter tg1 iter1 : Expr} {ifs ifs1 : List Expr} {scope : Scope} {own : List (Str × Nat)} {src src1 : Env → Sto → Res Src} {g g1 : D → Env → Option Env} {vs vs1 : List Nat} {et et1 : EvB} {ee : Ev} {spos : Pos}
    (hi : MI X c W tg iter src) (ok : BlkOk X.N X.env.scope scope own) (hg : ∀ (s : Shared) (H : Hp) (C : Addr) (cl : List (Str × Addr)) (fp : List Addr), MG (X.blk s H scope (compEnvC scope cl C X.env) fp) c tg vs g)
    (ht : ∀ (s : Shared) (H : Hp) (C : Addr) (cl : List (Str × Addr)) (fp : List Addr), MTs (X.blk s H scope (compEnvC scope cl C X.env) fp) c W0 ifs et)
    (hi1 : ∀ (s : Shared) (H : Hp) (C : Addr) (cl : List (Str × Addr)) (fp : List Addr), MIW (X.blk s H scope (compEnvC scope cl C X.env) fp) c W0 tg1 iter1 src1)
    (hg1 : ∀ (s : Shared) (H : Hp) (C : Addr) (cl : List (Str × Addr)) (fp : List Addr), MG (X.blk s H scope (compEnvC scope cl C X.env) fp) c tg1 vs1 g1)
    (ht1 : ∀ (s : Shared) (H : Hp) (C : Addr) (cl : List (Str × Addr)) (fp : List Addr), MTs (X.blk s H scope (compEnvC scope cl C X.env) fp) c W0 ifs1 et1)
    (he : ∀ (s : Shared) (H : Hp) (C : Addr) (cl : List (Str × Addr)) (fp : List Addr), ME (X.blk s H scope (compEnvC scope cl C X.env) fp) c W0 elt ee)
    (hv : ∀ j ∈ vs, j ∈ own.map (·.2)) (hv1 : ∀ j ∈ vs1, j ∈ own.map (·.2)) (hy : X.N[i]? = some y := by rfl) (hyl : X.env.scope.names.lookup y = some .local := by rfl)
    (hsw : swapsWith (.ListComp elt [⟨tg, iter, ifs, 0⟩, ⟨tg1, iter1, ifs1, 0⟩] scope pos) (some (.Name y py)) spos.line X.env = pure true := by exact sw_true rfl rfl rfl (by decide +kernel))
    (hc : X.calm = true := by rfl) (hs : ∀ x, foldedSetIterable iter X.env x = pure x := by intro _; rfl) (hs1 : ∀ env x, foldedSetIterable iter1 env x = pure x := by intro _ _; rfl) :
    MS X c W (.Assign [.Name y py] (.ListComp elt [⟨tg, iter, ifs, 0⟩, ⟨tg1, iter1, ifs1, 0⟩] scope pos) spos) (sAsg i (eLc2 src g et src1 g1 et1 ee (own.map (·.2)) vs1)) := fun s => by
  refine PS.imp (ps_setLc2 hc s.nd hy hyl hsw (hi s) ok hv1 (fun s' H C cl fp => hg s' H C cl fp s.kk s.nd) (fun s' H C cl fp => ht s' H C cl fp (s.blk ..)) (fun s' H C cl fp => hi1 s' H C cl fp (s.blk ..)) (fun s' H C cl fp => hg1 s' H C cl fp s.kk s.nd) (fun s' H C cl fp => ht1 s' H C cl fp (s.blk ..)) (fun s' H C cl fp => he s' H C cl fp (s.blk ..)) hs hs1) fun D' σ H ⟨φ, ρ, S, re, rs, o⟩ => ?_
  refine lc2_read (W := W) hv (Q := fun x H1 => gName i x σ H1 D'.nx) ⟨φ, ρ, S, re, rs, flow_out re rs o fun x S' φ' H' y e s' q re' o' => ?_⟩
  exact o' φ' H' _ (.refl _ _) s' (re'.set q)
end
end MP
end
section
set_option Elab.async false
set_option linter.all false
set_option maxRecDepth 100000
set_option maxHeartbeats 400000
/-! MPI: facts of the written part that the ends look up. -/
namespace MP
open PySem PySem.Spec PyProof.Rows L2
theorem all_at {α : Type} {l : List α} {f : α → Bool} (h : l.all f = true) {x : α} (m : x ∈ l) : f x = true := List.all_eq_true.mp h x m
def excB (K : PySem.W.Frag) (C : Addr) : Bool :=
  decide (PySem.W.findIn K (.ref C) "__getattribute__" = some (some (.builtin "BaseException.__getattribute__"))) && (decide (PySem.W.findIn K (.ref C) "__getattr__" = some none) && (decide (PySem.W.subIn K (.ref C) (.type "BaseException") = some true) && (PySem.W.hasDictIn K C &&
  (decide (PySem.W.findIn K (.ref C) "__class__" = some (some (.builtin "object.__class__"))) && (decide (PySem.W.specialIn K (.builtin "object.__class__") "__get__" = some (some (.builtin "getset_descriptor.__get__"))) && (decide (PySem.W.takesIn K (.builtin "object.__class__") = some true) && decide (PySem.W.mroIn K C (.type "object") = some true)))))))
theorem excB_ok {K : PySem.W.Frag} {C : Addr} (h : excB K C = true) : ExcC K C := by
  unfold excB at h
  simp only [Bool.and_eq_true, decide_eq_true_eq] at h
  obtain ⟨h1, h2, h3, h4, h5, h6, h7, h8⟩ := h
  exact ⟨h1, h2, h3, h4, h5, h6, h7, h8⟩
def kioB (xs : List (Str × Str × Bool)) (K : PySem.W.Frag) : Bool := xs.all fun p => decide (PySem.W.kitOne K (.ref (He.ga K p.1)) (.ref (He.ga K p.2.1)) = some p.2.2)
def kibB (xs : List (Str × String × Bool)) (K : PySem.W.Frag) : Bool := xs.all fun p => decide (PySem.W.kitOne K (.ref (He.ga K p.1)) (.type p.2.1) = some p.2.2)
theorem kioB_ok {xs : List (Str × Str × Bool)} {K : PySem.W.Frag} (h : kioB xs K = true) {a b : Str} {k : Bool} (m : (a, b, k) ∈ xs) : PySem.W.kitOne K (.ref (He.ga K a)) (.ref (He.ga K b)) = some k := of_decide_eq_true (List.all_eq_true.mp h _ m)
theorem kibB_ok {xs : List (Str × String × Bool)} {K : PySem.W.Frag} (h : kibB xs K = true) {a : Str} {b : String} {k : Bool} (m : (a, b, k) ∈ xs) : PySem.W.kitOne K (.ref (He.ga K a)) (.type b) = some k := of_decide_eq_true (List.all_eq_true.mp h _ m)
end MP
end
section
set_option Elab.async false
set_option linter.all false
set_option maxRecDepth 100000
set_option maxHeartbeats 1000000
/-! MPJ: the place of an int in a list or a tuple of ints. -/
namespace MP
open PySem PySem.Spec PyProof.Rows L2
/-- one argument -/
theorem Out.bindE {c : Cz} {H : Hp} {φ : List Addr} {r : Res D} {f : D → Sto → Res D} {Q : VK} {R : List V → Hp → Prop} {E : XK} (o : Out c H φ (RepV c) (r.bind f) Q E)
    (h : ∀ x S' φ' H' y, Ext H φ H' φ' → RepS c H' φ' S' → RepV c H' φ' x y → Out c H' φ' (RepV c) (f x S') Q E → R [y] H') :
    Out c H φ (RepL c) (r.bind fun d S1 => (Res.ok [] S1 : Res (List D)).bind fun ds S2 => .ok (d :: ds) S2) R E := by
  cases r with
  | ok d S1 =>
    intro φ' H' ys e s q
    obtain ⟨y, rfl, q1⟩ := RepL.one q
    exact h d S1 φ' H' y e s q1 (Out.later o e)
  | exc n ns ds S => exact o
  | stuck => exact o.elim
section
variable {X : Cx} {c : Cz} {W : WX} {a b d o : Expr} {ea eb ed eo : Ev} {pos cpos apos : Pos} {es : List Expr} {ra : EvA} {x : Str} {p : Pos}
def tIdx (K : PySem.W.Frag) (to : TE) (te : TA) : TE := fun σ H Q => to σ H fun x H1 => ∃ q, x = .ref q ∧
  (((∃ us, SqL K H1 q us) ∧ te σ H1 fun ys H2 => ∃ (ns : List Int) (k : Int), ys = [.int k] ∧ SqL K H2 q (ns.map V.int) ∧ k ∈ ns ∧ Q (.int (ns.idxOf k : Nat)) H2) ∨
   ((∃ us, SqN K H1 q us) ∧ te σ H1 fun ys H2 => ∃ (ns : List Int) (k : Int), ys = [.int k] ∧ SqT K H2 q (ns.map V.int) ∧ k ∈ ns ∧ Q (.int (ns.idxOf k : Nat)) H2))
theorem pe_idx {to : TE} {te : TA} (ho : PE X o to) (ha : PA X [a] te)
    (hbase : attributeBase o "index" X.env (eval o X.env) = eval o X.env := by rfl)
    (hfew : ((backTo cpos (starEach [a] X.env)).all (fun x => !x.1) && (backToKw cpos (keywordEach [] X.env)).all (fun x => x.1.isSome)
      && decide ([a].length + ([] : List Keyword).length + (if ([] : List Keyword).isEmpty then 0 else 1) < 30)) = true := by rfl)
    (hline : (apos.endLine == cpos.line) = true := by rfl) (hs : starEach [a] X.env = (false, eval a X.env) :: starEach [] X.env := by rfl) :
    PE X (.Call (.Attribute o "index" apos) [a] [] cpos) (tIdx X.K to te) := ⟨fun pins s σ H Q I h => by
  refine wpAny_Call_method_late hbase hfew hline rfl (thn (ho.run pins s σ H _ I h) fun v s1 ⟨x, H1, I1, r1, q, ex, w⟩ => ?_)
  subst ex
  cases r1
  rcases w with ⟨⟨us, hq⟩, w⟩ | ⟨⟨us, hq⟩, w⟩
  · obtain ⟨its, r', pl, hz⟩ := I1.list hq
    obtain ⟨ob, n, ho1, hc1, hd1, hd2⟩ := id pl
    refine ⟨"list", "list.index", PySem.F.plainAttrs_list, PySem.F.slot_list_index, PySem.F.type_list_index, pl.isList.typeIs, fun a' e => by cases e; exact ⟨ob, ho1, hd1⟩, ?_⟩
    have hA := ha.run cpos pins s1 σ H1 _ I1 w
    rw [hs] at hA ⊢
    refine Calls.callWith_builtin (by rfl) (Calls.evalArgs_plain (thn hA fun u s2 ⟨ys, H2, I2, r2, ns, k, ey, h2, hk, fin⟩ => ?_))
    subst ey
    obtain ⟨u1, rfl, t, rfl⟩ := vals1 r2
    obtain ⟨its2, rv, pl2, hz2⟩ := I2.list h2
    exact PySem.SeqAt.list_index_ints pl2.isList (ints_of_vals rv) (by simpa using hz2) hk ⟨.int (ns.idxOf k : Nat), H2, I2.tok _, ⟨_, rfl⟩, fin⟩
  · obtain ⟨ob, ho1, hd1⟩ := hq.bare I1
    obtain ⟨its, r', pt, hz⟩ := I1.tuple hq.sq
    have pt' : s1.heap.IsTuple q its.toArray := pt
    have ty : s1.TypeIs (.ref q) "tuple" := by
      obtain ⟨o2, g1, g2, _⟩ := pt'
      exact ⟨o2, g1, g2⟩
    refine ⟨"tuple", "tuple.index", PySem.F.plainAttrs_tuple, PySem.F.slot_tuple_index, PySem.F.type_tuple_index, ty, fun a' e => by cases e; exact ⟨ob, ho1, hd1⟩, ?_⟩
    have hA := ha.run cpos pins s1 σ H1 _ I1 w
    rw [hs] at hA ⊢
    refine Calls.callWith_builtin (by rfl) (Calls.evalArgs_plain (thn hA fun u s2 ⟨ys, H2, I2, r2, ns, k, ey, h2, hk, fin⟩ => ?_))
    subst ey
    obtain ⟨u1, rfl, t, rfl⟩ := vals1 r2
    obtain ⟨its2, rv, pt2, hz2⟩ := I2.tuple h2
    exact PySem.SeqAt.tuple_index_ints (show s2.heap.IsTuple q its2.toArray from pt2) (ints_of_vals rv) hk ⟨.int (ns.idxOf k : Nat), H2, I2.tok _, ⟨_, rfl⟩, fin⟩⟩
def dIdx : Op2 := fun d e S => match d, e with
  | .lst l, .int k => (S[l]?).bind fun xs => (intsOf xs).bind fun ns => if k ∈ ns then some (.int (ns.idxOf k : Nat), S) else none
  | .tup xs, .int k => (intsOf xs).bind fun ns => if k ∈ ns then some (.int (ns.idxOf k : Nat), S) else none
  | _, _ => none
def eIdx (eo ea : Ev) : Ev := fun ρ S => (eo ρ S).bind fun d S1 => match d with
  | .lst l => (ea ρ S1).bind fun y S2 => lift (dIdx (.lst l) y S2)
  | .tup xs => (ea ρ S1).bind fun y S2 => lift (dIdx (.tup xs) y S2)
  | _ => .stuck
theorem me_idx (ho : ME X c W o eo) (ha : ME X c W a ea)
    (hbase : attributeBase o "index" X.env (eval o X.env) = eval o X.env := by rfl)
    (hfew : ((backTo cpos (starEach [a] X.env)).all (fun x => !x.1) && (backToKw cpos (keywordEach [] X.env)).all (fun x => x.1.isSome)
      && decide ([a].length + ([] : List Keyword).length + (if ([] : List Keyword).isEmpty then 0 else 1) < 30)) = true := by rfl)
    (hline : (apos.endLine == cpos.line) = true := by rfl) (hs : starEach [a] X.env = (false, eval a X.env) :: starEach [] X.env := by rfl) :
    ME X c W (.Call (.Attribute o "index" apos) [a] [] cpos) (eIdx eo ea) := fun s => by
  refine PE.imp (pe_idx (ho s) (ma_cons ha ma_nil hs s) hbase hfew hline hs) fun σ H Q ⟨φ, ρ, S, re, rs, o⟩ => ?_
  refine ⟨φ, ρ, S, re, rs, Out.bind o fun d S1 φ1 H1 v e1 s1 r1 o1 => ?_⟩
  cases d with
  | lst l =>
    unfold RepV at r1
    obtain ⟨q, rfl, h1, kd1⟩ := r1
    obtain ⟨vs, h2⟩ := kind_lst kd1
    refine ⟨q, rfl, .inl ⟨⟨_, SqL.of h2⟩, φ1, ρ, S1, re.ext rs e1, s1, ?_⟩⟩
    unfold aCons aNil
    refine Out.bindE o1 fun y S2 φ2 H2 u e2 s2 r2 o2 => ?_
    replace o2 := OutO.of o2
    cases y <;> first
      | exact False.elim o2
      | skip
    rename_i k
    unfold RepV at r2
    subst r2
    have o2 : OutO c H2 φ2 (RepV c) ((S2[l]?).bind fun xs => (intsOf xs).bind fun ns => if k ∈ ns then some (D.int (ns.idxOf k : Nat), S2) else none) Q := o2
    cases q0 : S2[l]? with
    | none => rw [q0] at o2; exact o2.elim
    | some xs =>
      rw [q0, Option.bind_some] at o2
      obtain ⟨q', us, g1, g2, g3⟩ := s2.at_ l xs q0 (pre_get e2.pre h1) (e2.lk h1 kd1)
      rw [pre_get e2.pre h1] at g1
      cases g1
      cases q1 : intsOf xs with
      | none => rw [q1] at o2; exact o2.elim
      | some ns =>
        rw [q1, Option.bind_some] at o2
        by_cases hk : k ∈ ns
        · rw [if_pos hk] at o2
          exact ⟨ns, k, rfl, by rw [← ints_rel g3 q1]; exact SqL.of g2, hk, o2 φ2 H2 _ (.refl _ _) s2 rep_int⟩
        · rw [if_neg hk] at o2
          exact o2.elim
  | tup xs =>
    unfold RepV at r1
    obtain ⟨q, us, rfl, h1, h2⟩ := r1
    refine ⟨q, rfl, .inr ⟨⟨_, by rw [← s.kk]; exact h1⟩, φ1, ρ, S1, re.ext rs e1, s1, ?_⟩⟩
    unfold aCons aNil
    refine Out.bindE o1 fun y S2 φ2 H2 u e2 s2 r2 o2 => ?_
    replace o2 := OutO.of o2
    cases y <;> first
      | exact False.elim o2
      | skip
    rename_i k
    unfold RepV at r2
    subst r2
    have o2 : OutO c H2 φ2 (RepV c) ((intsOf xs).bind fun ns => if k ∈ ns then some (D.int (ns.idxOf k : Nat), S2) else none) Q := o2
    cases q1 : intsOf xs with
    | none => rw [q1] at o2; exact o2.elim
    | some ns =>
      rw [q1, Option.bind_some] at o2
      by_cases hk : k ∈ ns
      · rw [if_pos hk] at o2
        exact ⟨ns, k, rfl, by rw [← s.kk, ← ints_rel h2 q1]; exact (SqN.ext s1.ls e2 h1).sq, hk, o2 φ2 H2 _ (.refl _ _) s2 rep_int⟩
      · rw [if_neg hk] at o2
        exact o2.elim
  | _ => exact o1.elim
end
end MP
end
section
set_option Elab.async false
set_option linter.all false
set_option maxRecDepth 100000
set_option maxHeartbeats 400000
/-! PP: the evaluators reckoned with: rewriting rules for the pure laws. -/
namespace MP
open PySem PySem.Spec PyProof.Rows L2
@[simp] theorem dAdd_int {i j : Int} {S : Sto} : dAdd (.int i) (.int j) S = some (.int (i + j), S) := rfl
theorem dMul_int {i j : Int} {S : Sto} (h : CMulA i j) : dMul (.int i) (.int j) S = some (.int (i * j), S) := by
  unfold dMul
  simp [h]
theorem dTup_ok {ds : List D} {S : Sto} (h : ds.length ≤ 1000 := by decide) : dTup ds S = some (.tup ds, S) := by
  unfold dTup
  simp [h]
theorem dLst_ok {ds : List D} {S : Sto} (h : ds.length ≤ 1000) : dLst ds S = some (.lst S.length, S ++ [ds]) := by
  unfold dLst
  simp [h]
theorem toPy_int {S : Sto} {n : Nat} {i : Int} : toPy S (n + 1) (.int i) = some (.int i) := rfl
theorem deep_eq : deep = 38 + 1 + 1 := rfl
@[simp] theorem dEq_int {i j : Int} {S : Sto} : dEq (.int i) (.int j) S = some (.bl (decide (i = j)), S) := by
  have e : dEq (.int i) (.int j) S = some (.bl (PyData.eqv (.int i) (.int j)), S) := rfl
  rw [e]
  simp [PyData.eqv]
  by_cases h : i = j <;> simp [h]
@[simp] theorem dNe_int {i j : Int} {S : Sto} : dNe (.int i) (.int j) S = some (.bl (!decide (i = j)), S) := by
  have e : dNe (.int i) (.int j) S = some (.bl (!PyData.eqv (.int i) (.int j)), S) := rfl
  rw [e]
  simp [PyData.eqv]
  by_cases h : i = j <;> simp [h]
theorem dNe_bl {i j : Bool} {S : Sto} : dNe (.bl i) (.bl j) S = some (.bl (!(i == j)), S) := by
  have e : dNe (.bl i) (.bl j) S = some (.bl (!PyData.eqv (.bool i) (.bool j)), S) := rfl
  rw [e]
  simp [PyData.eqv]
def dq (q : Int × Int) : D := .tup [.int q.1, .int q.2]
@[simp] theorem dEq_dq {q r : Int × Int} {S : Sto} : dEq (dq q) (dq r) S = some (.bl (decide (q = r)), S) := by
  have e : dEq (dq q) (dq r) S = some (.bl (PyData.eqv (.tuple [.int q.1, .int q.2]) (.tuple [.int r.1, .int r.2])), S) := rfl
  rw [e]
  obtain ⟨a, b⟩ := q
  obtain ⟨c, d⟩ := r
  by_cases h1 : a = c <;> by_cases h2 : b = d <;> simp [PyData.eqv, PyData.eqvAll, h1, h2]
/-- a text that is laid out -/
def okS (x : Str) : Bool := PyData.strOk x
theorem dEq_str {x y : Str} {S : Sto} (hx : okS x = true) (hy : okS y = true) : dEq (.str x) (.str y) S = some (.bl (x == y), S) := by
  unfold okS at hx hy
  have hx' : toPy S deep (.str x) = some (.str x) := by
    show (if PyData.strOk x = true then some (PyData.str x) else none) = _
    rw [if_pos hx]
  have hy' : toPy S deep (.str y) = some (.str y) := by
    show (if PyData.strOk y = true then some (PyData.str y) else none) = _
    rw [if_pos hy]
  unfold dEq
  rw [hx', hy']
  simp [PyData.eqv]
theorem dNe_str {x y : Str} {S : Sto} (hx : okS x = true) (hy : okS y = true) : dNe (.str x) (.str y) S = some (.bl (!(x == y)), S) := by
  unfold okS at hx hy
  have hx' : toPy S deep (.str x) = some (.str x) := by
    show (if PyData.strOk x = true then some (PyData.str x) else none) = _
    rw [if_pos hx]
  have hy' : toPy S deep (.str y) = some (.str y) := by
    show (if PyData.strOk y = true then some (PyData.str y) else none) = _
    rw [if_pos hy]
  unfold dNe
  rw [hx', hy']
  simp [PyData.eqv]
theorem dNe_of {d e : D} {p q : PyData} {S : Sto} (h1 : toPy S deep d = some p) (h2 : toPy S deep e = some q) : dNe d e S = some (.bl (!PyData.eqv p q), S) := by
  unfold dNe
  rw [h1, h2]
theorem toPy_q {S : Sto} {q : Int × Int} : toPy S 39 (dq q) = some (.tuple [.int q.1, .int q.2]) := rfl
/-! isinstance -/
section
variable {S : Sto} {i : Int} {b : Bool} {x : Str} {xs : List D} {l : Nat}
theorem k_ii : kitB "int" "int" = some true := by decide +kernel
theorem k_ib : kitB "int" "bool" = some false := by decide +kernel
theorem k_it : kitB "int" "tuple" = some false := by decide +kernel
theorem k_is : kitB "int" "str" = some false := by decide +kernel
theorem k_bi : kitB "bool" "int" = some true := by decide +kernel
theorem k_bb : kitB "bool" "bool" = some true := by decide +kernel
theorem k_bt : kitB "bool" "tuple" = some false := by decide +kernel
theorem k_si : kitB "str" "int" = some false := by decide +kernel
theorem k_sb : kitB "str" "bool" = some false := by decide +kernel
theorem k_st : kitB "str" "tuple" = some false := by decide +kernel
theorem k_ss : kitB "str" "str" = some true := by decide +kernel
theorem k_tt : kitB "tuple" "tuple" = some true := by decide +kernel
theorem k_ti : kitB "tuple" "int" = some false := by decide +kernel
theorem k_lt : kitB "list" "tuple" = some false := by decide +kernel
theorem k_nt : kitB "NoneType" "tuple" = some false := by decide +kernel
theorem k_ni : kitB "NoneType" "int" = some false := by decide +kernel
@[simp] theorem isi_ii : dIsi "int" (.int i) S = some (.bl true, S) := by simp [dIsi, tyName, k_ii]
@[simp] theorem isi_ib : dIsi "bool" (.int i) S = some (.bl false, S) := by simp [dIsi, tyName, k_ib]
@[simp] theorem isi_it : dIsi "tuple" (.int i) S = some (.bl false, S) := by simp [dIsi, tyName, k_it]
@[simp] theorem isi_is : dIsi "str" (.int i) S = some (.bl false, S) := by simp [dIsi, tyName, k_is]
@[simp] theorem isi_bi : dIsi "int" (.bl b) S = some (.bl true, S) := by simp [dIsi, tyName, k_bi]
@[simp] theorem isi_bb : dIsi "bool" (.bl b) S = some (.bl true, S) := by simp [dIsi, tyName, k_bb]
@[simp] theorem isi_bt : dIsi "tuple" (.bl b) S = some (.bl false, S) := by simp [dIsi, tyName, k_bt]
@[simp] theorem isi_si : dIsi "int" (.str x) S = some (.bl false, S) := by simp [dIsi, tyName, k_si]
@[simp] theorem isi_sb : dIsi "bool" (.str x) S = some (.bl false, S) := by simp [dIsi, tyName, k_sb]
@[simp] theorem isi_st : dIsi "tuple" (.str x) S = some (.bl false, S) := by simp [dIsi, tyName, k_st]
@[simp] theorem isi_ss : dIsi "str" (.str x) S = some (.bl true, S) := by simp [dIsi, tyName, k_ss]
@[simp] theorem isi_tt : dIsi "tuple" (.tup xs) S = some (.bl true, S) := by simp [dIsi, tyName, k_tt]
@[simp] theorem isi_ti : dIsi "int" (.tup xs) S = some (.bl false, S) := by simp [dIsi, tyName, k_ti]
@[simp] theorem isi_lt : dIsi "tuple" (.lst l) S = some (.bl false, S) := by simp [dIsi, tyName, k_lt]
@[simp] theorem isi_nt : dIsi "tuple" .non S = some (.bl false, S) := by simp [dIsi, tyName, k_nt]
@[simp] theorem isi_ni : dIsi "int" .non S = some (.bl false, S) := by simp [dIsi, tyName, k_ni]
@[simp] theorem len_tup : dLen [.tup xs] S = some (.int xs.length, S) := rfl
theorem len_lst (h : S[l]? = some xs) : dLen [.lst l] S = some (.int xs.length, S) := by
  unfold dLen itemsOf
  simp [h]
theorem tup_lst (h : S[l]? = some xs) : dTupOf [.lst l] S = some (.tup xs, S) := by
  unfold dTupOf itemsOf
  simp [h]
theorem list_lst (h : S[l]? = some xs) : dListOf [.lst l] S = some (.lst S.length, S ++ [xs]) := by
  unfold dListOf itemsOf
  simp [h]
@[simp] theorem list_frl : dListOf [.frl xs] S = some (.lst S.length, S ++ [xs]) := rfl
theorem ixN_nat {n k : Nat} (h : k < n) : ixN n (k : Int) = some k := by
  unfold ixN
  rw [if_pos (by omega), if_pos (by omega)]
  simp
theorem atI_nat {α : Type} {xs : List α} {k : Nat} {v : α} (h : xs[k]? = some v) : atI xs (k : Int) = some v := by
  unfold atI
  rw [ixN_nat (List.getElem?_eq_some_iff.mp h).1]
  exact h
theorem ix_tup {k : Nat} {v : D} (h : xs[k]? = some v) : dIx (.tup xs) (.int k) S = some (v, S) := by
  unfold dIx
  simp [atI_nat h]
theorem ix_lst {k : Nat} {v : D} (hl : S[l]? = some xs) (h : xs[k]? = some v) : dIx (.lst l) (.int k) S = some (v, S) := by
  unfold dIx
  simp [hl, atI_nat h]
@[simp] theorem ix_tup0 {v : D} {r : List D} : dIx (.tup (v :: r)) (.int 0) S = some (v, S) := ix_tup (k := 0) rfl
@[simp] theorem ix_tup1 {u v : D} {r : List D} : dIx (.tup (u :: v :: r)) (.int 1) S = some (v, S) := ix_tup (k := 1) rfl
@[simp] theorem ix_dq0 {q : Int × Int} : dIx (dq q) (.int 0) S = some (.int q.1, S) := ix_tup (k := 0) rfl
@[simp] theorem ix_dq1 {q : Int × Int} : dIx (dq q) (.int 1) S = some (.int q.2, S) := ix_tup (k := 1) rfl
@[simp] theorem isi_dq {q : Int × Int} : dIsi "tuple" (dq q) S = some (.bl true, S) := isi_tt
theorem set_lst {k : Nat} {v : D} (hl : S[l]? = some xs) (h : k < xs.length) : gSet (.lst l) (.int k) v S = some (S.set l (xs.set k v)) := by
  unfold gSet
  simp [hl, ixN_nat h]
end
/-! loops -/
theorem seq_next {a b : Es} {ρ ρ' : Env} {S S' : Sto} (h : a ρ S = .next ρ' S') : sSeq a b ρ S = b ρ' S' := by
  unfold sSeq
  rw [h]
  rfl
theorem seq_ret {a b : Es} {ρ : Env} {S S' : Sto} {d : D} (h : a ρ S = .ret d S') : sSeq a b ρ S = .ret d S' := by
  unfold sSeq
  rw [h]
  rfl
theorem seq_exc {a b : Es} {ρ ρ' : Env} {S S' : Sto} {n : Str} {ns : List Str} {ds : List D} (h : a ρ S = .exc n ns ds ρ' S') : sSeq a b ρ S = .exc n ns ds ρ' S' := by
  unfold sSeq
  rw [h]
  rfl
section
variable {st : Sto → Prop} {b : D → Env → Option Env} {body : Es}
theorem for_nil {ρ : Env} {S : Sto} (h : st S) : forLoop st b body [] ρ S = .next ρ S := by
  unfold forLoop
  simp [h]
theorem for_cons {x : D} {xs : List D} {ρ ρ1 ρ2 : Env} {S S2 : Sto} (h : st S) (hb : b x ρ = some ρ1) (hy : body ρ1 S = .next ρ2 S2) : forLoop st b body (x :: xs) ρ S = forLoop st b body xs ρ2 S2 := by
  rw [forLoop]
  simp [h, hb, hy]
theorem for_ret {x : D} {xs : List D} {ρ ρ1 : Env} {S S2 : Sto} {d : D} (h : st S) (hb : b x ρ = some ρ1) (hy : body ρ1 S = .ret d S2) : forLoop st b body (x :: xs) ρ S = .ret d S2 := by
  rw [forLoop]
  simp [h, hb, hy]
/-- a loop by an invariant over the items that are left -/
theorem for_inv (I : List D → Env → Sto → Prop) (hst : ∀ xs ρ S, I xs ρ S → st S)
    (step : ∀ x xs ρ S, I (x :: xs) ρ S → ∃ ρ1 ρ2 S2, b x ρ = some ρ1 ∧ body ρ1 S = .next ρ2 S2 ∧ I xs ρ2 S2) : ∀ xs ρ S, I xs ρ S → ∃ ρ' S', forLoop st b body xs ρ S = .next ρ' S' ∧ I [] ρ' S'
  | [], ρ, S, h => ⟨ρ, S, for_nil (hst _ _ _ h), h⟩
  | x :: xs, ρ, S, h => by
    obtain ⟨ρ1, ρ2, S2, h1, h2, h3⟩ := step x xs ρ S h
    obtain ⟨ρ', S', h4, h5⟩ := for_inv I hst step xs ρ2 S2 h3
    exact ⟨ρ', S', by rw [for_cons (hst _ _ _ h) h1 h2]; exact h4, h5⟩
theorem while_done {t : EvB} {n : Nat} {ρ : Env} {S S1 : Sto} (h : t ρ S = .ok false S1) : whileLoop t body (n + 1) ρ S = .next ρ S1 := by
  unfold whileLoop
  simp [h]
theorem while_step {t : EvB} {n : Nat} {ρ ρ2 : Env} {S S1 S2 : Sto} (h : t ρ S = .ok true S1) (hb : body ρ S1 = .next ρ2 S2) : whileLoop t body (n + 1) ρ S = whileLoop t body n ρ2 S2 := by
  rw [whileLoop]
  simp [h, hb]
variable {t : EvB} {e : Ev} {ρ : Env}
theorem lc_nil {acc : List D} {S : Sto} (h : st S) : lcLoop st b t e ρ [] acc S = .ok acc S := by
  unfold lcLoop
  simp [h]
theorem lc_cons {x : D} {xs acc : List D} {ρ1 : Env} {S S1 S2 : Sto} {d : D} (h : st S) (hb : b x ρ = some ρ1) (ht : t ρ1 S = .ok true S1) (he : e ρ1 S1 = .ok d S2) (hl : acc.length < 1000000) :
    lcLoop st b t e ρ (x :: xs) acc S = lcLoop st b t e ρ xs (acc ++ [d]) S2 := by
  rw [lcLoop]
  simp [h, hb, ht, he, hl]
/-- a comprehension that leaves the store -/
theorem lc_map (f : D → D) {S : Sto} (hst : st S) : ∀ (xs acc : List D), acc.length + xs.length ≤ 1000000 → (∀ x ∈ xs, ∃ ρ1, b x ρ = some ρ1 ∧ t ρ1 S = .ok true S ∧ e ρ1 S = .ok (f x) S) → lcLoop st b t e ρ xs acc S = .ok (acc ++ xs.map f) S
  | [], acc, _, _ => by rw [lc_nil hst]; simp
  | x :: xs, acc, hl, h => by
    obtain ⟨ρ1, h1, h2, h3⟩ := h x (by simp)
    simp only [List.length_cons] at hl
    rw [lc_cons hst h1 h2 h3 (by omega), lc_map f hst xs (acc ++ [f x]) (by simp; omega) fun y hy => h y (by simp [hy])]
    simp
end
theorem fuel_big {n : Nat} (h : n < 2 ^ 4000000) : n < fuel := by
  unfold fuel
  exact h
@[simp] theorem tTrue_ok {ρ : Env} {S : Sto} : tTrue ρ S = .ok true S := rfl
end MP
end
section
set_option Elab.async false
set_option linter.all false
set_option maxRecDepth 100000
set_option maxHeartbeats 1000000
/-! MPK: steps of the evaluators, one by one. -/
namespace MP
open PySem PySem.Spec PyProof.Rows L2
def Bt (x : Int) (k : Nat) : Prop := x.natAbs < 2 ^ k
theorem Bt.mono {x : Int} {a b : Nat} (h : Bt x a) (k : a ≤ b) : Bt x b := Nat.lt_of_lt_of_le h (Nat.pow_le_pow_right (by decide) k)
theorem Bt.mul {x y : Int} {a b : Nat} (h : Bt x a) (k : Bt y b) : Bt (x * y) (a + b) := by
  unfold Bt at *
  rw [Int.natAbs_mul, Nat.pow_add]
  exact Nat.mul_lt_mul'' h k
theorem Bt.add {x y : Int} {a : Nat} (h : Bt x a) (k : Bt y a) : Bt (x + y) (a + 1) := by
  unfold Bt at *
  rw [Nat.pow_succ]
  have := Int.natAbs_add_le x y
  omega
theorem Bt.neg {x : Int} {a : Nat} (h : Bt x a) : Bt (-x) a := by
  unfold Bt at *
  rw [Int.natAbs_neg]
  exact h
/-- log2 below -/
theorem log_lt {n k : Nat} (h : n < 2 ^ k) (h0 : 0 < k) : n.log2 < k := PySem.Flt.log2_lt_of h0 h
theorem log_le {n k : Nat} (h : n < 2 ^ k) : n.log2 ≤ k := by
  by_cases hk : k = 0
  · subst hk
    have : n = 0 := by simpa using h
    subst this
    decide
  · exact Nat.le_of_lt (log_lt h (by omega))
theorem mulA {x y : Int} {a b : Nat} (h : Bt x a) (k : Bt y b) (s : a + b < 100000000) : CMulA x y := by
  have h1 := log_le h
  have h2 := log_le k
  unfold CMulA
  omega
theorem divA {x y : Int} {b : Nat} (h : y ≠ 0) (k : Bt y b) (s : b < 9000) : CDivA x y := by
  have h2 := log_le k
  exact ⟨h, by omega⟩
theorem boolsOf_map (f : D → Bool) : ∀ ds : List D, boolsOf (ds.map fun d => .bl (f d)) = some (ds.map f)
  | [] => rfl
  | d :: ds => by
    rw [List.map_cons, boolsOf, boolsOf_map f ds]
    rfl
theorem intsOf_map {α : Type} (f : α → Int) : ∀ ds : List α, intsOf (ds.map fun d => .int (f d)) = some (ds.map f)
  | [] => rfl
  | d :: ds => by
    rw [List.map_cons, intsOf, intsOf_map f ds]
    rfl
theorem for_idx {st : Sto → Prop} {b : D → Env → Option Env} {body : Es} (I : Nat → Env → Sto → Prop) (hst : ∀ i ρ S, I i ρ S → st S) : ∀ (ys : List D) (xs : List D) (i : Nat) (ρ : Env) (S : Sto), xs.drop i = ys → i ≤ xs.length →
    (∀ i x ρ S, xs[i]? = some x → I i ρ S → ∃ ρ1 ρ2 S2, b x ρ = some ρ1 ∧ body ρ1 S = .next ρ2 S2 ∧ I (i + 1) ρ2 S2) → I i ρ S → ∃ ρ' S', forLoop st b body ys ρ S = .next ρ' S' ∧ I xs.length ρ' S'
  | [], xs, i, ρ, S, hd, hi, step, h => by
    have : xs.length ≤ i := List.drop_eq_nil_iff.mp hd
    have e : i = xs.length := by omega
    subst e
    exact ⟨ρ, S, for_nil (hst _ _ _ h), h⟩
  | y :: ys, xs, i, ρ, S, hd, hi, step, h => by
    have hlt : i < xs.length := by
      rcases Nat.lt_or_ge i xs.length with q | q
      · exact q
      · rw [List.drop_eq_nil_iff.mpr q] at hd
        cases hd
    have hx : xs[i]? = some y := by
      have := congrArg (fun l => l[0]?) hd
      simpa [List.getElem?_drop] using this
    obtain ⟨ρ1, ρ2, S2, h1, h2, h3⟩ := step i y ρ S hx h
    have hd2 : xs.drop (i + 1) = ys := by
      rw [← List.drop_drop, hd]
      rfl
    obtain ⟨ρ', S', h4, h5⟩ := for_idx I hst ys xs (i + 1) ρ2 S2 hd2 (by omega) step h3
    exact ⟨ρ', S', by rw [for_cons (hst _ _ _ h) h1 h2]; exact h4, h5⟩
theorem for_all {st : Sto → Prop} {b : D → Env → Option Env} {body : Es} (I : Nat → Env → Sto → Prop) (hst : ∀ i ρ S, I i ρ S → st S) (xs : List D) (ρ : Env) (S : Sto)
    (step : ∀ i x ρ S, xs[i]? = some x → I i ρ S → ∃ ρ1 ρ2 S2, b x ρ = some ρ1 ∧ body ρ1 S = .next ρ2 S2 ∧ I (i + 1) ρ2 S2) (h : I 0 ρ S) : ∃ ρ' S', forLoop st b body xs ρ S = .next ρ' S' ∧ I xs.length ρ' S' :=
  for_idx I hst xs xs 0 ρ S rfl (by omega) step h
theorem rng_ok {n : Nat} (h : n ≤ 1000000) {S : Sto} : rng1 [.int (n : Int)] S = .ok ⟨rngL 0 n, fun _ => True⟩ S := by
  unfold rng1
  have : (n : Int) < 2 ^ 62 ∧ -(2 ^ 62) ≤ (n : Int) := by omega
  show (if (n : Int) < 2 ^ 62 ∧ -(2 ^ 62) ≤ (n : Int) then _ else _) = _
  rw [if_pos this]
  simp
theorem rng_at {n i : Nat} {x : D} (h : (rngL 0 n)[i]? = some x) : i < n ∧ x = .int (i : Int) := by
  obtain ⟨a, b⟩ := rngL_get h
  exact ⟨a, by rw [b, Int.zero_add]⟩
theorem for_rng {a : EvA} {ρ : Env} {S : Sto} {n : Nat} {b : D → Env → Option Env} {body : Es} {F : Flow} (ha : a ρ S = .ok [.int (n : Int)] S) (hn : n ≤ 1000000) (h : forLoop (fun _ => True) b body (rngL 0 n) ρ S = F) : sFor (iRange rng1 a) b body ρ S = F := by
  unfold sFor iRange
  rw [ha, Res.bind_ok, rng_ok hn, ofRes_ok]
  exact h
theorem for_lst {e : Ev} {ρ : Env} {S S' : Sto} {l : Nat} {xs : List D} {b : D → Env → Option Env} {body : Es} {F : Flow} (he : e ρ S = .ok (.lst l) S') (hl : S'[l]? = some xs) (h : forLoop (fun S' => S'[l]? = some xs) b body xs ρ S' = F) : sFor (iSeq e) b body ρ S = F := by
  unfold sFor iSeq srcOf
  rw [he, Res.bind_ok]
  simp only [hl, Option.map_some, ofRes_ok]
  exact h
theorem take_next {α : Type} {z : List α} {i : Nat} {q : α} (h : z[i]? = some q) : z.take (i + 1) = z.take i ++ [q] := by
  rw [List.take_add_one, h]
  rfl
theorem at_lt {α : Type} {l : List α} {i : Nat} (h : i < l.length) : ∃ p, l[i]? = some p := ⟨_, List.getElem?_eq_getElem h⟩
theorem pow10 (k : Nat) (hk : k ≤ 1000) {S : Sto} : dPow (.int 10) (.int (k : Int)) S = some (.int (10 ^ k), S) := by
  have h : CPow 10 (k : Int) := by
    refine ⟨by omega, by omega, by decide⟩
  unfold dPow dI
  simp [h]
theorem fmod_range {a m : Int} (h : 0 < m) : 0 ≤ a.fmod m ∧ a.fmod m < m := by
  rw [Int.fmod_eq_emod_of_nonneg _ (by omega)]
  exact ⟨Int.emod_nonneg _ (by omega), Int.emod_lt_of_pos _ h⟩
theorem bt_of {x : Int} {k : Nat} {m : Int} (h0 : 0 ≤ x) (h : x < m) (hm : m.natAbs ≤ 2 ^ k) : Bt x k := by
  unfold Bt
  omega
theorem int_fmod {r : Int} {m : Nat} (hm : 0 < m) : ∃ k : Nat, k < m ∧ r.fmod (m : Int) = (k : Int) := by
  obtain ⟨a, b⟩ := fmod_range (a := r) (m := (m : Int)) (by omega)
  exact ⟨(r.fmod m).toNat, by omega, by omega⟩
theorem if_t {t : EvB} {a b : Es} {ρ : Env} {S S' : Sto} (h : t ρ S = .ok true S') : sIf t a b ρ S = a ρ S' := by
  unfold sIf
  rw [h]
  rfl
theorem if_f {t : EvB} {a b : Es} {ρ : Env} {S S' : Sto} (h : t ρ S = .ok false S') : sIf t a b ρ S = b ρ S' := by
  unfold sIf
  rw [h]
  rfl
theorem ret_asg {e : Ev} {ρ : Env} {S S' : Sto} {d : D} {i : Nat} (h : e ρ S = .ok d S') : sAsg i e ρ S = .next (ρ.set i (some d)) S' := by
  unfold sAsg
  rw [h]
  rfl
theorem ret_ret {e : Ev} {ρ : Env} {S S' : Sto} {d : D} (h : e ρ S = .ok d S') : sRet e ρ S = .ret d S' := by
  unfold sRet
  rw [h]
  rfl
theorem b_ok {g : Op2} {a b : Ev} {ρ : Env} {S S1 S2 S3 : Sto} {x y z : D} (h1 : a ρ S = .ok x S1) (h2 : b ρ S1 = .ok y S2) (h3 : g x y S2 = some (z, S3)) : eB g a b ρ S = .ok z S3 := by
  unfold eB
  rw [h1, Res.bind_ok, h2, Res.bind_ok, h3, lift_some]
theorem call1 {F : List D → Sto → Res D} {a : Ev} {ρ : Env} {S S1 : Sto} {x : D} (h1 : a ρ S = .ok x S1) : eCall 1 F (aCons a aNil) ρ S = F [x] S1 := by
  simp [eCall, aCons, aNil, h1]
theorem call2 {F : List D → Sto → Res D} {a b : Ev} {ρ : Env} {S S1 S2 : Sto} {x y : D} (h1 : a ρ S = .ok x S1) (h2 : b ρ S1 = .ok y S2) : eCall 2 F (aCons a (aCons b aNil)) ρ S = F [x, y] S2 := by
  simp [eCall, aCons, aNil, h1, h2]
theorem call3 {F : List D → Sto → Res D} {a b c : Ev} {ρ : Env} {S S1 S2 S3 : Sto} {x y z : D} (h1 : a ρ S = .ok x S1) (h2 : b ρ S1 = .ok y S2) (h3 : c ρ S2 = .ok z S3) : eCall 3 F (aCons a (aCons b (aCons c aNil))) ρ S = F [x, y, z] S3 := by
  simp [eCall, aCons, aNil, h1, h2, h3]
theorem call4 {F : List D → Sto → Res D} {a b c d : Ev} {ρ : Env} {S S1 S2 S3 S4 : Sto} {x y z w : D} (h1 : a ρ S = .ok x S1) (h2 : b ρ S1 = .ok y S2) (h3 : c ρ S2 = .ok z S3) (h4 : d ρ S3 = .ok w S4) : eCall 4 F (aCons a (aCons b (aCons c (aCons d aNil)))) ρ S = F [x, y, z, w] S4 := by
  simp [eCall, aCons, aNil, h1, h2, h3, h4]
theorem var_ok {i : Nat} {ρ : Env} {S : Sto} {d : D} (h : ρ[i]? = some (some d)) : eVar i ρ S = .ok d S := by
  unfold eVar
  rw [h]
theorem c_ok {ρ : Env} {S : Sto} {d : D} : eC d ρ S = .ok d S := rfl
theorem pw_ok {k : Nat} {X : Int} {ρ : Env} {S : Sto} (hk : k ≤ 1000) (hX : X = 10 ^ k) : eB dPow (eC (.int 10)) (eC (.int (k : Int))) ρ S = .ok (.int X) S := by
  rw [hX]
  exact b_ok c_ok c_ok (pow10 k hk)
theorem pwa_ok {k : Nat} {X y : Int} {ρ : Env} {S : Sto} (hk : k ≤ 1000) (hX : X = 10 ^ k) : eB dAdd (eB dPow (eC (.int 10)) (eC (.int (k : Int)))) (eC (.int y)) ρ S = .ok (.int (X + y)) S :=
  b_ok (pw_ok hk hX) c_ok rfl
theorem sub_ok {a b : Ev} {ρ : Env} {S S1 S2 : Sto} {x y : Int} (h1 : a ρ S = .ok (.int x) S1) (h2 : b ρ S1 = .ok (.int y) S2) : eB dSub a b ρ S = .ok (.int (x - y)) S2 := b_ok h1 h2 rfl
theorem add_ok {a b : Ev} {ρ : Env} {S S1 S2 : Sto} {x y : Int} (h1 : a ρ S = .ok (.int x) S1) (h2 : b ρ S1 = .ok (.int y) S2) : eB dAdd a b ρ S = .ok (.int (x + y)) S2 := b_ok h1 h2 rfl
theorem mul_ok {a b : Ev} {ρ : Env} {S S1 S2 : Sto} {x y : Int} (c : CMulA x y) (h1 : a ρ S = .ok (.int x) S1) (h2 : b ρ S1 = .ok (.int y) S2) : eB dMul a b ρ S = .ok (.int (x * y)) S2 := b_ok h1 h2 (dMul_int c)
theorem bt_nat {r m k : Nat} (h : r < m) (hk : m ≤ 2 ^ k) : Bt (r : Int) k := by
  unfold Bt
  simp only [Int.natAbs_natCast]
  omega
theorem bt10 (k : Nat) (a : Nat) (h : 10 ^ k < 2 ^ a) : Bt ((10 : Int) ^ k) a := by
  unfold Bt
  rw [Int.natAbs_pow]
  exact h
theorem if_s {t : EvB} {a : Es} {ρ : Env} {S S' : Sto} (h : t ρ S = .ok false S') : sIf t a sSkip ρ S = .next ρ S' := by
  rw [if_f h]
  rfl
theorem test_ok {e : Ev} {ρ : Env} {S S' : Sto} {b : Bool} (h : e ρ S = .ok (.bl b) S') : eTest e ρ S = .ok b S' := by
  unfold eTest
  rw [h]
  rfl
theorem eq_ok {a b : Ev} {ρ : Env} {S S1 S2 : Sto} {x y : Int} (h1 : a ρ S = .ok (.int x) S1) (h2 : b ρ S1 = .ok (.int y) S2) : eB dEq a b ρ S = .ok (.bl (decide (x = y))) S2 := b_ok h1 h2 dEq_int
theorem gt_ok {a b : Ev} {ρ : Env} {S S1 S2 : Sto} {x y : Int} (h1 : a ρ S = .ok (.int x) S1) (h2 : b ρ S1 = .ok (.int y) S2) : eB dGt a b ρ S = .ok (.bl (decide (y < x))) S2 := b_ok h1 h2 rfl
theorem and_f {a b : EvB} {ρ : Env} {S S' : Sto} (h : a ρ S = .ok false S') : eAndT a b ρ S = .ok false S' := by
  unfold eAndT
  rw [h]
  rfl
theorem and_2 {a b : EvB} {ρ : Env} {S S' S'' : Sto} {k : Bool} (h : a ρ S = .ok true S') (h2 : b ρ S' = .ok k S'') : eAndT a b ρ S = .ok k S'' := by
  unfold eAndT
  rw [h, Res.bind_ok, if_pos rfl, h2]
theorem or_t {a b : EvB} {ρ : Env} {S S' : Sto} (h : a ρ S = .ok true S') : eOrT a b ρ S = .ok true S' := by
  unfold eOrT
  rw [h]
  rfl
theorem or_2 {a b : EvB} {ρ : Env} {S S' S'' : Sto} {k : Bool} (h : a ρ S = .ok false S') (h2 : b ρ S' = .ok k S'') : eOrT a b ρ S = .ok k S'' := by
  unfold eOrT
  rw [h, Res.bind_ok]
  exact h2
theorem not_b {a : EvB} {ρ : Env} {S S' : Sto} {k : Bool} (h : a ρ S = .ok k S') : eNotT a ρ S = .ok (!k) S' := by
  unfold eNotT
  rw [h]
  rfl
theorem sub_next {g : D → D → D → Sto → Option Sto} {o i e : Ev} {ρ : Env} {S S1 S2 S3 S4 : Sto} {v a k : D} (h1 : e ρ S = .ok v S1) (h2 : o ρ S1 = .ok a S2) (h3 : i ρ S2 = .ok k S3) (h4 : g a k v S3 = some S4) : sSub g o i e ρ S = .next ρ S4 := by
  unfold sSub
  rw [h1, ofRes_ok, h2, ofRes_ok, h3, ofRes_ok, h4]
def Kp (R R' : Sto) : Prop := ∀ (i : Nat) (xs : List D), R[i]? = some xs → R'[i]? = some xs
theorem Kp.refl (R : Sto) : Kp R R := fun _ _ h => h
theorem Kp.app (R G : Sto) : Kp R (R ++ G) := fun i xs h => by
  rw [List.getElem?_append_left (List.getElem?_eq_some_iff.mp h).1, h]
theorem Kp.trans {A B C : Sto} (h : Kp A B) (k : Kp B C) : Kp A C := fun i xs e => k i xs (h i xs e)
theorem tup2 {ρ : Env} {S : Sto} {x y : D} : eTup (aCons (eC x) (aCons (eC y) aNil)) ρ S = .ok (.tup [x, y]) S := by
  simp [eTup, eL, aCons, aNil, eC, dTup_ok]
theorem tup_ev {i l : Nat} {ρ : Env} {S : Sto} {xs : List D} (h : ρ[i]? = some (some (.lst l))) (hl : S[l]? = some xs) : eL dTupOf (aCons (eVar i) aNil) ρ S = .ok (.tup xs) S := by
  unfold eL aCons aNil
  rw [var_ok h, Res.bind_ok, Res.bind_ok, Res.bind_ok, tup_lst hl, lift_some]
theorem list_ev {i l : Nat} {ρ : Env} {S : Sto} {xs : List D} (h : ρ[i]? = some (some (.lst l))) (hl : S[l]? = some xs) : eL dListOf (aCons (eVar i) aNil) ρ S = .ok (.lst S.length) (S ++ [xs]) := by
  unfold eL aCons aNil
  rw [var_ok h, Res.bind_ok, Res.bind_ok, Res.bind_ok, list_lst hl, lift_some]
theorem len_ev {i l : Nat} {ρ : Env} {S : Sto} {xs : List D} (h : ρ[i]? = some (some (.lst l))) (hl : S[l]? = some xs) : eL dLen (aCons (eVar i) aNil) ρ S = .ok (.int xs.length) S := by
  unfold eL aCons aNil
  rw [var_ok h, Res.bind_ok, Res.bind_ok, Res.bind_ok, len_lst hl, lift_some]
theorem cut_lo {xs : List D} {k : Nat} : cutD xs none (some (k : Int)) = xs.take k := by
  unfold cutD
  rw [HT.sIx_nat, HT.sIx_none, List.drop_zero, Nat.sub_zero]
  rcases Nat.le_total k xs.length with h | h
  · rw [Nat.min_eq_left h]
  · rw [Nat.min_eq_right h, List.take_length, List.take_of_length_le h]
theorem cut_hi {xs : List D} {k : Nat} (h : k ≤ xs.length) : cutD xs (some (k : Int)) none = xs.drop k := by
  unfold cutD
  rw [HT.sIx_nat, HT.sIx_none, Nat.min_eq_left h, List.take_of_length_le (by simp)]
theorem sl_lo {i l k : Nat} {ρ : Env} {S : Sto} {xs : List D} {e : Ev} (h : ρ[i]? = some (some (.lst l))) (hl : S[l]? = some xs) (he : e ρ S = .ok (.int (k : Int)) S) : eSl (eVar i) none (some e) ρ S = .ok (.lst S.length) (S ++ [xs.take k]) := by
  unfold eSl
  simp only [var_ok h, Res.bind_ok, he, dSl, hl, Option.map_some, lift_some, cut_lo]
theorem sl_hi {i l k : Nat} {ρ : Env} {S : Sto} {xs : List D} {e : Ev} (h : ρ[i]? = some (some (.lst l))) (hl : S[l]? = some xs) (he : e ρ S = .ok (.int (k : Int)) S) (hk : k ≤ xs.length) : eSl (eVar i) (some e) none ρ S = .ok (.lst S.length) (S ++ [xs.drop k]) := by
  unfold eSl
  simp only [var_ok h, Res.bind_ok, he, dSl, hl, Option.map_some, lift_some, cut_hi hk]
theorem add_lst {S : Sto} {l m : Nat} {xs ys : List D} (h1 : S[l]? = some xs) (h2 : S[m]? = some ys) (h : xs.length + ys.length ≤ 1000000) : dAdd (.lst l) (.lst m) S = some (.lst S.length, S ++ [xs ++ ys]) := by
  unfold dAdd
  simp only [h1, h2]
  rw [if_pos (show xs.length + ys.length ≤ most from h)]
theorem add_tup {S : Sto} {xs ys : List D} (h : xs.length + ys.length ≤ 1000000) : dAdd (.tup xs) (.tup ys) S = some (.tup (xs ++ ys), S) := by
  unfold dAdd
  simp only []
  rw [if_pos (show xs.length + ys.length ≤ most from h)]
theorem lst1 {e1 : Ev} {x : D} {ρ : Env} {S : Sto} (h1 : ∀ S, e1 ρ S = .ok x S) : eLst (aCons e1 aNil) ρ S = .ok (.lst S.length) (S ++ [[x]]) := by
  simp [eLst, eL, aCons, aNil, h1, dLst_ok]
theorem not_v {i : Nat} {ρ : Env} {S : Sto} {b : Bool} (h : ρ[i]? = some (some (.bl b))) : eNot (eVar i) ρ S = .ok (.bl (!b)) S := by
  unfold eNot
  rw [var_ok h]
  rfl
theorem bits_bt {z : Int} (h : Builtin.Int.intBits z ≤ 1048576) : Bt z 2000000 := by
  unfold Builtin.Int.intBits at h
  by_cases hz : z = 0
  · subst hz
    exact Nat.pow_pos (by decide)
  · have e : (z == 0) = false := by simpa using hz
    rw [e] at h
    have h' : z.natAbs.log2 + 1 ≤ 1048576 := h
    have hn : z.natAbs ≠ 0 := by omega
    exact (Nat.log2_lt hn).mp (by omega)
theorem int_at {ns : List Int} {i : Nat} {x : D} (h : (ns.map D.int)[i]? = some x) : ∃ z, ns[i]? = some z ∧ D.int z = x := by
  rw [List.getElem?_map] at h
  cases hh : ns[i]? with
  | none => rw [hh] at h; cases h
  | some u => rw [hh] at h; exact ⟨u, rfl, Option.some.inj h⟩
theorem kw2 {F : List D → Sto → Res D} {a b : Ev} {ρ : Env} {S S1 S2 : Sto} {x y : D} (h1 : a ρ S = .ok x S1) (h2 : b ρ S1 = .ok y S2) : eKw 0 2 2 pm01 F aNil (aCons a (aCons b aNil)) ρ S = F [x, y] S2 := by
  simp [eKw, aCons, aNil, h1, h2, pm01]
theorem eAnd_ok {a b : Ev} {ρ : Env} {S S1 S2 : Sto} {d : D} (h1 : a ρ S = .ok (.bl true) S1) (h2 : b ρ S1 = .ok d S2) : eAnd a b ρ S = .ok d S2 := by
  unfold eAnd
  rw [h1, Res.bind_ok]
  exact h2
theorem take_len {α : Type} {l : List α} {n : Nat} (h : l.length = n) : l.take n = l := by
  rw [← h, List.take_length]
theorem cut_mem {xs : List D} {lo hi : Option Int} {x : D} (h : x ∈ cutD xs lo hi) : x ∈ xs := by
  unfold cutD at h
  exact List.mem_of_mem_drop (List.mem_of_mem_take h)
theorem sl_both {i l : Nat} {ρ : Env} {S : Sto} {xs : List D} {e1 e2 : Ev} {j k : Int} (h : ρ[i]? = some (some (.lst l))) (hl : S[l]? = some xs) (h1 : e1 ρ S = .ok (.int j) S) (h2 : e2 ρ S = .ok (.int k) S) : eSl (eVar i) (some e1) (some e2) ρ S = .ok (.lst S.length) (S ++ [cutD xs (some j) (some k)]) := by
  unfold eSl
  simp only [var_ok h, Res.bind_ok, h1, h2, dSl, hl, Option.map_some, lift_some]
theorem lt_ok {a b : Ev} {ρ : Env} {S S1 S2 : Sto} {x y : Int} (h1 : a ρ S = .ok (.int x) S1) (h2 : b ρ S1 = .ok (.int y) S2) : eB dLt a b ρ S = .ok (.bl (decide (x < y))) S2 := b_ok h1 h2 rfl
theorem u_ok {g : D → Sto → Option (D × Sto)} {a : Ev} {ρ : Env} {S S1 S2 : Sto} {x z : D} (h1 : a ρ S = .ok x S1) (h3 : g x S1 = some (z, S2)) : eU g a ρ S = .ok z S2 := by
  unfold eU
  rw [h1, Res.bind_ok, h3, lift_some]
theorem rep_one {S : Sto} {l n : Nat} {x : D} (h : S[l]? = some [x]) (hn : n < 1000) : dMul (.lst l) (.int (n : Int)) S = some (.lst S.length, S ++ [List.replicate n x]) := by
  unfold dMul
  simp only [h]
  rw [if_pos ⟨by omega, by omega, by simp [most]; omega⟩]
  simp
theorem rev_ev {i l : Nat} {ρ : Env} {S : Sto} {xs : List D} (h : ρ[i]? = some (some (.lst l))) (hl : S[l]? = some xs) : eU dRev (eVar i) ρ S = .ok (.lst S.length) (S ++ [xs.reverse]) := by
  refine u_ok (var_ok h) ?_
  unfold dRev
  simp only [hl, Option.map_some]
theorem tup_of {e : Ev} {l : Nat} {ρ : Env} {S S' : Sto} {xs : List D} (h : e ρ S = .ok (.lst l) S') (hl : S'[l]? = some xs) : eL dTupOf (aCons e aNil) ρ S = .ok (.tup xs) S' := by
  unfold eL aCons aNil
  rw [h, Res.bind_ok, Res.bind_ok, Res.bind_ok, tup_lst hl, lift_some]
theorem q_tup0 (ρ : Env) (S : Sto) : eTup aNil ρ S = .ok (.tup []) S := by
  simp [eTup, eL, aNil, dTup_ok]
theorem if_no {t : EvB} {a b : Es} {ρ : Env} {S S' : Sto} {k : Bool} (h : t ρ S = .ok k S') (hk : k = false) : sSeq (sIf t a sSkip) b ρ S = b ρ S' := by
  subst hk
  rw [seq_next (if_s h)]
/-! ### more steps -/
theorem fmod_nat (a b : Nat) : Int.fmod (a : Int) (b : Int) = ((a % b : Nat) : Int) := by
  rw [Int.fmod_eq_emod_of_nonneg _ (by omega)]
  simp
theorem le_ok {a b : Ev} {ρ : Env} {S S1 S2 : Sto} {x y : Int} (h1 : a ρ S = .ok (.int x) S1) (h2 : b ρ S1 = .ok (.int y) S2) : eB dLe a b ρ S = .ok (.bl (decide (x ≤ y))) S2 := b_ok h1 h2 rfl
theorem ge_ok {a b : Ev} {ρ : Env} {S S1 S2 : Sto} {x y : Int} (h1 : a ρ S = .ok (.int x) S1) (h2 : b ρ S1 = .ok (.int y) S2) : eB dGe a b ρ S = .ok (.bl (decide (y ≤ x))) S2 := b_ok h1 h2 rfl
theorem ne_ok {a b : Ev} {ρ : Env} {S S1 S2 : Sto} {x y : Int} (h1 : a ρ S = .ok (.int x) S1) (h2 : b ρ S1 = .ok (.int y) S2) : eB dNe a b ρ S = .ok (.bl (!decide (x = y))) S2 := b_ok h1 h2 dNe_int
theorem mod_ok {a b : Ev} {ρ : Env} {S S1 S2 : Sto} {x y : Nat} (h1 : a ρ S = .ok (.int (x : Int)) S1) (h2 : b ρ S1 = .ok (.int (y : Int)) S2) (hy : y ≠ 0) : eB dMod a b ρ S = .ok (.int ((x % y : Nat) : Int)) S2 := by
  refine b_ok h1 h2 ?_
  have c : CModA (x : Int) (y : Int) := by unfold CModA; omega
  unfold dMod dI
  simp only [if_pos c, fmod_nat]
theorem lenT_ok {e : Ev} {ρ : Env} {S S1 : Sto} {xs : List D} (h : e ρ S = .ok (.tup xs) S1) : eL dLen (aCons e aNil) ρ S = .ok (.int xs.length) S1 := by
  unfold eL aCons aNil
  rw [h, Res.bind_ok, Res.bind_ok, Res.bind_ok]
  rfl
theorem idxT_ok {a b : Ev} {ρ : Env} {S S1 S2 : Sto} {c : List Int} {p : Int} {xs : List D} (h1 : a ρ S = .ok (.tup xs) S1) (h2 : b ρ S1 = .ok (.int p) S2) (hx : intsOf xs = some c) (hp : p ∈ c) : eIdx a b ρ S = .ok (.int (c.idxOf p : Nat)) S2 := by
  unfold eIdx
  rw [h1, Res.bind_ok]
  simp only []
  rw [h2, Res.bind_ok]
  unfold dIdx
  simp only [hx, Option.bind_some, if_pos hp, lift_some]
theorem idxL_ok {a b : Ev} {ρ : Env} {S S1 S2 : Sto} {c : List Int} {p : Int} {l : Nat} {xs : List D} (h1 : a ρ S = .ok (.lst l) S1) (h2 : b ρ S1 = .ok (.int p) S2) (hl : S2[l]? = some xs) (hx : intsOf xs = some c) (hp : p ∈ c) : eIdx a b ρ S = .ok (.int (c.idxOf p : Nat)) S2 := by
  unfold eIdx
  rw [h1, Res.bind_ok]
  simp only []
  rw [h2, Res.bind_ok]
  unfold dIdx
  simp only [hl, hx, Option.bind_some, if_pos hp, lift_some]
theorem eOr_t {a b : Ev} {ρ : Env} {S S1 : Sto} (h1 : a ρ S = .ok (.bl true) S1) : eOr a b ρ S = .ok (.bl true) S1 := by
  unfold eOr
  rw [h1]
  rfl
theorem eOr_f {a b : Ev} {ρ : Env} {S S1 S2 : Sto} {d : D} (h1 : a ρ S = .ok (.bl false) S1) (h2 : b ρ S1 = .ok d S2) : eOr a b ρ S = .ok d S2 := by
  unfold eOr
  rw [h1, Res.bind_ok]
  exact h2
theorem eAnd_f {a b : Ev} {ρ : Env} {S S1 : Sto} (h1 : a ρ S = .ok (.bl false) S1) : eAnd a b ρ S = .ok (.bl false) S1 := by
  unfold eAnd
  rw [h1]
  rfl
/-- a loop: over what is left; it goes on, or stops -/
theorem for_gen {st : Sto → Prop} {b : D → Env → Option Env} {body : Es} (I : List D → Env → Sto → Prop) (T : Flow → Prop) (hst : ∀ ys ρ S, I ys ρ S → st S)
    (step : ∀ x ys ρ S, I (x :: ys) ρ S → ∃ ρ1, b x ρ = some ρ1 ∧ ((∃ ρ2 S2, (body ρ1 S = .next ρ2 S2 ∨ body ρ1 S = .cont ρ2 S2) ∧ I ys ρ2 S2) ∨ (((∃ d S', body ρ1 S = .ret d S') ∨ ∃ n ns ds ρ' S', body ρ1 S = .exc n ns ds ρ' S') ∧ T (body ρ1 S)))) :
    ∀ (xs : List D) (ρ : Env) (S : Sto), I xs ρ S → (∃ ρ' S', forLoop st b body xs ρ S = .next ρ' S' ∧ I [] ρ' S') ∨ T (forLoop st b body xs ρ S)
  | [], ρ, S, h => .inl ⟨ρ, S, for_nil (hst _ _ _ h), h⟩
  | x :: xs, ρ, S, h => by
    obtain ⟨ρ1, h1, w⟩ := step x xs ρ S h
    rw [forLoop]
    simp only [hst _ _ _ h, if_true, h1]
    rcases w with ⟨ρ2, S2, (h2 | h2), h3⟩ | ⟨(⟨d, S', h2⟩ | ⟨n, ns, ds, ρ', S', h2⟩), h3⟩
    · rw [h2]
      exact for_gen I T hst step xs ρ2 S2 h3
    · rw [h2]
      exact for_gen I T hst step xs ρ2 S2 h3
    · rw [h2] at h3 ⊢
      exact .inr h3
    · rw [h2] at h3 ⊢
      exact .inr h3
/-- a comprehension with a test that leaves the store -/
theorem lc_filter {st : Sto → Prop} {b : D → Env → Option Env} {t : EvB} {e : Ev} {ρ : Env} (q : D → Bool) (f : D → D) {S : Sto} (hst : st S) : ∀ (xs acc : List D), acc.length + xs.length ≤ 1000000 → (∀ x ∈ xs, ∃ ρ1, b x ρ = some ρ1 ∧ t ρ1 S = .ok (q x) S ∧ (q x = true → e ρ1 S = .ok (f x) S)) → lcLoop st b t e ρ xs acc S = .ok (acc ++ (xs.filter q).map f) S
  | [], acc, _, _ => by rw [lc_nil hst]; simp
  | x :: xs, acc, hl, h => by
    obtain ⟨ρ1, h1, h2, h3⟩ := h x (by simp)
    simp only [List.length_cons] at hl
    have ih := fun acc' (hl' : acc'.length + xs.length ≤ 1000000) => lc_filter q f hst xs acc' hl' fun y hy => h y (by simp [hy])
    cases hq : q x with
    | true =>
      rw [lc_cons hst h1 (by rw [h2, hq]) (h3 hq) (by omega), ih _ (by simp; omega), List.filter_cons_of_pos hq]
      simp
    | false =>
      rw [lcLoop]
      simp only [hst, if_true, h1, h2, hq, if_false]
      rw [List.filter_cons_of_neg (by rw [hq]; decide)]
      exact ih acc (by omega)
/-! ### which kind -/
theorem isi_of {T : String} {d : D} {S : Sto} {k : Bool} (h1 : tyd d = true) (h : kitB (tyName d) T = some k) : dIsi T d S = some (.bl k, S) := by
  cases d <;> first
    | (cases h1; done)
    | (unfold dIsi; rw [h]; rfl)
/-- a loop by the item's place: it goes on, or stops -/
theorem for_genI {st : Sto → Prop} {b : D → Env → Option Env} {body : Es} (xs : List D) (I : Nat → Env → Sto → Prop) (T : Flow → Prop) (hst : ∀ i ρ S, I i ρ S → st S)
    (step : ∀ i x ρ S, xs[i]? = some x → I i ρ S → ∃ ρ1, b x ρ = some ρ1 ∧ ((∃ ρ2 S2, (body ρ1 S = .next ρ2 S2 ∨ body ρ1 S = .cont ρ2 S2) ∧ I (i + 1) ρ2 S2) ∨ (((∃ d S', body ρ1 S = .ret d S') ∨ ∃ n ns ds ρ' S', body ρ1 S = .exc n ns ds ρ' S') ∧ T (body ρ1 S))))
    (ρ : Env) (S : Sto) (h : I 0 ρ S) : (∃ ρ' S', forLoop st b body xs ρ S = .next ρ' S' ∧ I xs.length ρ' S') ∨ T (forLoop st b body xs ρ S) := by
  have key := for_gen (st := st) (b := b) (body := body) (fun ys ρ S => ∃ i, ys = xs.drop i ∧ i ≤ xs.length ∧ I i ρ S) T (fun ys ρ S ⟨i, _, _, h⟩ => hst i ρ S h) (fun x ys ρ S ⟨i, e, hi, h⟩ => by
    have hlt : i < xs.length := by
      rcases Nat.lt_or_ge i xs.length with q | q
      · exact q
      · rw [List.drop_eq_nil_iff.mpr q] at e
        cases e
    have hx : xs[i]? = some x := by
      have := congrArg (fun l => l[0]?) e
      simpa [List.getElem?_drop] using this.symm
    have e2 : ys = xs.drop (i + 1) := by
      rw [← List.drop_drop, ← e]
      rfl
    obtain ⟨ρ1, h1, w⟩ := step i x ρ S hx h
    refine ⟨ρ1, h1, ?_⟩
    rcases w with ⟨ρ2, S2, h2, h3⟩ | w
    · exact .inl ⟨ρ2, S2, h2, i + 1, e2, hlt, h3⟩
    · exact .inr w) xs ρ S ⟨0, rfl, Nat.zero_le _, h⟩
  rcases key with ⟨ρ', S', h1, i, e, hi, h2⟩ | k
  · have : xs.length ≤ i := List.drop_eq_nil_iff.mp e.symm
    have e2 : i = xs.length := by omega
    subst e2
    exact .inl ⟨ρ', S', h1, h2⟩
  · exact .inr k
/-- all of a comprehension of bools -/
theorem all_lc {e x : Ev} {v : Nat} {ρ : Env} {S : Sto} {ys : List D} {f : D → Bool} (he : e ρ S = .ok (.tup ys) S) (hl : ys.length ≤ 1000000) (hx : ∀ d ∈ ys, x ((wipeE ρ [v]).set v (some d)) S = .ok (.bl (f d)) S) :
    eL dAll (aCons (eLc (iSeq e) (bName v) tTrue x [v]) aNil) ρ S = .ok (.bl (ys.all f)) (S ++ [ys.map fun d => .bl (f d)]) := by
  have e1 : eLc (iSeq e) (bName v) tTrue x [v] ρ S = .ok (.lst S.length) (S ++ [ys.map fun d => .bl (f d)]) := by
    unfold eLc iSeq srcOf
    rw [he, Res.bind_ok]
    simp only [Res.bind_ok]
    have e0 := lc_map (st := fun _ => True) (b := bName v) (t := tTrue) (e := x) (ρ := wipeE ρ [v]) (fun d => .bl (f d)) (S := S) trivial ys [] (by simpa using hl) (fun d hd => ⟨_, rfl, rfl, hx d hd⟩)
    rw [e0]
    rfl
  unfold eL aCons aNil
  rw [e1]
  simp only [Res.bind_ok]
  have e2 : dAll [.lst S.length] (S ++ [ys.map fun d => .bl (f d)]) = some (.bl (ys.all f), S ++ [ys.map fun d => .bl (f d)]) := by
    unfold dAll
    simp [boolsOf_map]
  rw [e2, lift_some]
theorem inV_int {p : Int} : ∀ c : List Int, inV (.int p) (c.map V.int) = decide (p ∈ c)
  | [] => by
    unfold inV
    simp
  | q :: c => by
    have ih := inV_int (p := p) c
    unfold inV at ih ⊢
    rw [List.map_cons, List.any_cons, ih]
    by_cases h : p = q
    · subst h
      simp [eqV]
    · have h' : ¬ q = p := fun e => h e.symm
      simp [eqV, h, h']
theorem flatL_ints : ∀ c : List Int, flatL (c.map D.int) = some (c.map V.int)
  | [] => rfl
  | q :: c => by
    rw [List.map_cons, flatL, flatL_ints c]
    rfl
theorem in_tup {c : List Int} {p : Int} {S : Sto} : dIn (.int p) (.tup (c.map D.int)) S = some (.bl (decide (p ∈ c)), S) := by
  unfold dIn itemsOf
  simp only [Option.bind_some, flatL_ints, flatD, Option.map_some, inV_int]
theorem notIn_tup {c : List Int} {p : Int} {S : Sto} : dNotIn (.int p) (.tup (c.map D.int)) S = some (.bl (!decide (p ∈ c)), S) := by
  unfold dNotIn itemsOf
  simp only [Option.bind_some, flatL_ints, flatD, Option.map_some, inV_int]
theorem in_lst {c : List Int} {p : Int} {S : Sto} {l : Nat} (h : S[l]? = some (c.map D.int)) : dIn (.int p) (.lst l) S = some (.bl (decide (p ∈ c)), S) := by
  unfold dIn itemsOf
  simp only [h, Option.bind_some, flatL_ints, flatD, Option.map_some, inV_int]
theorem notIn_lst {c : List Int} {p : Int} {S : Sto} {l : Nat} (h : S[l]? = some (c.map D.int)) : dNotIn (.int p) (.lst l) S = some (.bl (!decide (p ∈ c)), S) := by
  unfold dNotIn itemsOf
  simp only [h, Option.bind_some, flatL_ints, flatD, Option.map_some, inV_int]
/-- a comprehension with a test, lists being laid beside -/
theorem lc_filterG {st : Sto → Prop} {b : D → Env → Option Env} {t : EvB} {e : Ev} {ρ : Env} (q : D → Bool) (f : D → D) {S : Sto} (hst : ∀ G, st (S ++ G)) : ∀ (xs acc : List D) (G : Sto), acc.length + xs.length ≤ 1000000 →
    (∀ x ∈ xs, ∃ ρ1, b x ρ = some ρ1 ∧ (∀ G, ∃ G', t ρ1 (S ++ G) = .ok (q x) (S ++ G')) ∧ (q x = true → ∀ G, ∃ G', e ρ1 (S ++ G) = .ok (f x) (S ++ G'))) → ∃ G', lcLoop st b t e ρ xs acc (S ++ G) = .ok (acc ++ (xs.filter q).map f) (S ++ G')
  | [], acc, G, _, _ => ⟨G, by rw [lc_nil (hst G)]; simp⟩
  | x :: xs, acc, G, hl, h => by
    obtain ⟨ρ1, h1, h2, h3⟩ := h x (by simp)
    simp only [List.length_cons] at hl
    have ih := fun acc' G' (hl' : acc'.length + xs.length ≤ 1000000) => lc_filterG q f hst xs acc' G' hl' fun y hy => h y (by simp [hy])
    obtain ⟨G1, k1⟩ := h2 G
    cases hq : q x with
    | true =>
      obtain ⟨G2, k2⟩ := h3 hq G1
      obtain ⟨G3, k3⟩ := ih (acc ++ [f x]) G2 (by simp; omega)
      exact ⟨G3, by rw [lc_cons (hst G) h1 (by rw [k1, hq]) k2 (by omega), k3, List.filter_cons_of_pos hq]; simp⟩
    | false =>
      obtain ⟨G3, k3⟩ := ih acc G1 (by omega)
      refine ⟨G3, ?_⟩
      rw [lcLoop]
      simp only [hst G, if_true, h1, k1, hq, if_false]
      rw [List.filter_cons_of_neg (by rw [hq]; decide)]
      exact k3
end MP
end
section
set_option Elab.async false
set_option linter.all false
set_option maxRecDepth 100000
set_option maxHeartbeats 1000000
/-! MPD: dicts. -/
namespace MP
open PySem PySem.Spec PyProof.Rows L2
def keyOf : D → Option Key
  | .int i => some (.inl i)
  | .str x => some (.inr x)
  | _ => none
theorem keyOf_keyD (k : Key) : keyOf (keyD k) = some k := by cases k <;> rfl
theorem keyOf_eq {d : D} {k : Key} (h : keyOf d = some k) : d = keyD k := by
  cases d <;> first
    | (cases h; done)
    | (cases h; rfl)
def keysOf : List D → Option (List Key)
  | [] => some []
  | d :: ds => (keyOf d).bind fun k => (keysOf ds).map (k :: ·)
theorem keysOf_eq : ∀ {ds : List D} {k : List Key}, keysOf ds = some k → ds = k.map keyD
  | [], k, h => by cases h; rfl
  | d :: ds, k, h => by
    unfold keysOf at h
    cases q1 : keyOf d with
    | none => rw [q1] at h; cases h
    | some j =>
      cases q2 : keysOf ds with
      | none => rw [q1, q2] at h; cases h
      | some js =>
        rw [q1, q2] at h
        cases h
        rw [keyOf_eq q1, keysOf_eq q2]
        rfl
theorem keysOf_keyD : ∀ k : List Key, keysOf (k.map keyD) = some k
  | [] => rfl
  | k :: ks => by rw [List.map_cons, keysOf, keyOf_keyD, keysOf_keyD ks]; rfl
section
variable {κ : Type}
def entW (f : κ → D) (m : List (κ × D)) : List D := m.map fun p => .tup [f p.1, p.2]
def entR (g : D → Option κ) : List D → Option (List (κ × D))
  | [] => some []
  | .tup [x, d] :: xs => (g x).bind fun k => (entR g xs).map ((k, d) :: ·)
  | _ :: _ => none
theorem entR_W {f : κ → D} {g : D → Option κ} (h : ∀ k, g (f k) = some k) : ∀ m : List (κ × D), entR g (entW f m) = some m
  | [] => rfl
  | p :: m => by
    show (g (f p.1)).bind (fun k => (entR g (entW f m)).map ((k, p.2) :: ·)) = _
    rw [h, entR_W h m]
    rfl
theorem ents_W {f : κ → D} : ∀ (ks : List κ) (ds : List D), ents f ks ds = entW f (ks.zip ds)
  | [], _ => rfl
  | _ :: _, [] => rfl
  | k :: ks, d :: ds => by
    have := ents_W (f := f) ks ds
    unfold ents entW at this ⊢
    simp [this]
variable [DecidableEq κ]
def valD (m : List (κ × D)) (k : κ) : Option D := (m.find? fun p => decide (p.1 = k)).map (·.2)
def putD (m : List (κ × D)) (k : κ) (d : D) : List (κ × D) := if (m.any fun p => decide (p.1 = k)) = true then m.map (fun p => if p.1 = k then (p.1, d) else p) else m ++ [(k, d)]
def delD (m : List (κ × D)) (k : κ) : List (κ × D) := m.filter fun p => decide (p.1 ≠ k)
/-- a dict's content, written out, and in the heap -/
def RepM (c : Cz) (H : Hp) (φ : List Addr) : List (κ × D) → List (κ × V) → Prop
  | [], kvs => kvs = []
  | p :: m, kvs => ∃ v kr, kvs = (p.1, v) :: kr ∧ RepV c H φ p.2 v ∧ RepM c H φ m kr
variable {c : Cz} {H : Hp} {φ : List Addr}
theorem RepM.of : ∀ {kvs : List (κ × V)} {ds : List D}, RepL c H φ ds (kvs.map (·.2)) → RepM c H φ ((kvs.map (·.1)).zip ds) kvs
  | [], ds, h => by
    unfold RepM
    rfl
  | p :: kvs, [], h => by
    have := h.length
    simp at this
  | p :: kvs, d :: ds, h => by
    rw [List.map_cons] at h
    unfold RepL at h
    obtain ⟨v, vr, e, h1, h2⟩ := h
    cases e
    rw [List.map_cons, List.zip_cons_cons]
    unfold RepM
    exact ⟨p.2, kvs, rfl, h1, RepM.of h2⟩
theorem RepM.keys : ∀ {m : List (κ × D)} {kvs : List (κ × V)}, RepM c H φ m kvs → m.map (·.1) = kvs.map (·.1)
  | [], kvs, h => by unfold RepM at h; subst h; rfl
  | p :: m, kvs, h => by
    unfold RepM at h
    obtain ⟨v, kr, rfl, _, h2⟩ := h
    rw [List.map_cons, List.map_cons, h2.keys]
theorem RepM.vals : ∀ {m : List (κ × D)} {kvs : List (κ × V)}, RepM c H φ m kvs → RepL c H φ (m.map (·.2)) (kvs.map (·.2))
  | [], kvs, h => by unfold RepM at h; subst h; exact .nil
  | p :: m, kvs, h => by
    unfold RepM at h
    obtain ⟨v, kr, rfl, h1, h2⟩ := h
    exact .cons h1 h2.vals
theorem RepM.len {m : List (κ × D)} {kvs : List (κ × V)} (h : RepM c H φ m kvs) : m.length = kvs.length := by
  have := congrArg List.length h.keys
  simpa using this
theorem zip_fst_snd : ∀ m : List (κ × D), (m.map (·.1)).zip (m.map (·.2)) = m
  | [] => rfl
  | p :: m => by rw [List.map_cons, List.map_cons, List.zip_cons_cons, zip_fst_snd m]
theorem RepM.any {m : List (κ × D)} {kvs : List (κ × V)} (h : RepM c H φ m kvs) (k : κ) : (m.any fun p => decide (p.1 = k)) = kvs.any fun p => decide (p.1 = k) := by
  have e : ∀ {β : Type} (l : List (κ × β)), (l.any fun p => decide (p.1 = k)) = (l.map (·.1)).any fun j => decide (j = k) := fun l => by rw [List.any_map]; rfl
  rw [e, e, h.keys]
theorem RepM.val (k : κ) : ∀ {m : List (κ × D)} {kvs : List (κ × V)}, RepM c H φ m kvs → (valD m k = none ∧ valV kvs k = none) ∨ ∃ d v, valD m k = some d ∧ valV kvs k = some v ∧ RepV c H φ d v
  | [], kvs, h => by unfold RepM at h; subst h; exact .inl ⟨rfl, rfl⟩
  | p :: m, kvs, h => by
    unfold RepM at h
    obtain ⟨v, kr, rfl, h1, h2⟩ := h
    by_cases e : p.1 = k
    · exact .inr ⟨p.2, v, by simp [valD, e], by rw [valV_pos (p := (p.1, v)) e], h1⟩
    · rw [valV_neg (p := (p.1, v)) e, show valD (p :: m) k = valD m k by simp [valD, e]]
      exact h2.val k
theorem RepM.app : ∀ {m m' : List (κ × D)} {kvs kvs' : List (κ × V)}, RepM c H φ m kvs → RepM c H φ m' kvs' → RepM c H φ (m ++ m') (kvs ++ kvs')
  | [], _, kvs, _, h, h' => by unfold RepM at h; subst h; exact h'
  | p :: m, _, kvs, _, h, h' => by
    unfold RepM at h
    obtain ⟨v, kr, rfl, h1, h2⟩ := h
    rw [List.cons_append, List.cons_append]
    unfold RepM
    exact ⟨v, _, rfl, h1, h2.app h'⟩
theorem RepM.repl {k : κ} {d : D} {v : V} (r : RepV c H φ d v) : ∀ {m : List (κ × D)} {kvs : List (κ × V)}, RepM c H φ m kvs → RepM c H φ (m.map fun p => if p.1 = k then (p.1, d) else p) (kvs.map fun kv => if kv.1 = k then (kv.1, v) else kv)
  | [], kvs, h => by unfold RepM at h; subst h; unfold List.map RepM; rfl
  | p :: m, kvs, h => by
    unfold RepM at h
    obtain ⟨u, kr, rfl, h1, h2⟩ := h
    rw [List.map_cons, List.map_cons]
    unfold RepM
    by_cases e : p.1 = k
    · rw [if_pos e, if_pos e]
      exact ⟨v, _, rfl, r, h2.repl r⟩
    · rw [if_neg e, if_neg e]
      exact ⟨u, _, rfl, h1, h2.repl r⟩
theorem RepM.put {m : List (κ × D)} {kvs : List (κ × V)} (h : RepM c H φ m kvs) (k : κ) {d : D} {v : V} (r : RepV c H φ d v) : RepM c H φ (putD m k d) (putK kvs k v) := by
  unfold putD putK
  rw [h.any k]
  split
  · exact h.repl r
  · refine h.app ?_
    unfold RepM RepM
    exact ⟨v, [], rfl, r, rfl⟩
theorem RepM.del (k : κ) : ∀ {m : List (κ × D)} {kvs : List (κ × V)}, RepM c H φ m kvs → RepM c H φ (delD m k) (dropK kvs k)
  | [], kvs, h => by unfold RepM at h; subst h; unfold delD List.filter RepM; rfl
  | p :: m, kvs, h => by
    unfold RepM at h
    obtain ⟨u, kr, rfl, h1, h2⟩ := h
    have ih := h2.del k
    unfold delD dropK at ih ⊢
    by_cases e : p.1 = k
    · rw [List.filter_cons_of_neg (by simpa using e), List.filter_cons_of_neg (by simpa using e)]
      exact ih
    · rw [List.filter_cons_of_pos (by simpa using e), List.filter_cons_of_pos (by simpa using e)]
      unfold RepM
      exact ⟨u, _, rfl, h1, ih⟩
end
def dkW (m : List (Key × D)) : List D := entW keyD m
def dkR (xs : List D) : Option (List (Key × D)) := entR keyOf xs
def keyTOf : D → Option (List Key)
  | .tup xs => keysOf xs
  | _ => none
def dtW (m : List (List Key × D)) : List D := entW keyT m
def dtR (xs : List D) : Option (List (List Key × D)) := entR keyTOf xs
@[simp] theorem dkR_W (m : List (Key × D)) : dkR (dkW m) = some m := entR_W keyOf_keyD m
/-- read, locked or not -/
def dkRr (xs : List D) : Option (List (Key × D)) := match xs with
  | .wk [] :: ys => dkR ys
  | _ => dkR xs
theorem dkR_lk (ys : List D) : dkR (lkd ys) = none := rfl
@[simp] theorem dkRr_lk (m : List (Key × D)) : dkRr (lkd (dkW m)) = some m := by
  show dkR (dkW m) = some m
  exact dkR_W m
@[simp] theorem dkRr_W (m : List (Key × D)) : dkRr (dkW m) = some m := by
  rw [← dkR_W m]
  cases m with
  | nil => rfl
  | cons q m => rfl
@[simp] theorem dtR_W (m : List (List Key × D)) : dtR (dtW m) = some m := entR_W (fun k => keysOf_keyD k) m
section
variable {c : Cz} {H : Hp} {φ : List Addr} {S : Sto}
theorem Cell.dk {xs : List D} {a : Addr} (h : Cell c H φ xs a) (hk : kindO (H a) = 2) : (∃ m kvs, xs = dkW m ∧ H a = some (.dK kvs) ∧ RepM c H φ m kvs) ∨ ∃ q m kvs, xs = lkd (dkW m) ∧ H a = some (.frz q (.dK kvs)) ∧ RepM c H φ m kvs := by
  rcases h with ⟨vs, h2, _⟩ | ⟨kvs, ds, h2, h3, h4⟩ | ⟨kvs, ds, h2, _⟩ | ⟨q, kvs, ds, h2, h3, h4⟩
  · rw [h2] at hk; cases hk
  · exact .inl ⟨_, kvs, by rw [h3, ents_W]; rfl, h2, .of h4⟩
  · rw [h2] at hk; cases hk
  · exact .inr ⟨q, _, kvs, by rw [h3, ents_W]; rfl, h2, .of h4⟩
theorem Cell.dt {xs : List D} {a : Addr} (h : Cell c H φ xs a) (hk : kindO (H a) = 3) : ∃ m kvs, xs = dtW m ∧ H a = some (.dT kvs) ∧ RepM c H φ m kvs := by
  rcases h with ⟨vs, h2, _⟩ | ⟨kvs, ds, h2, _⟩ | ⟨kvs, ds, h2, h3, h4⟩ | ⟨q, kvs, ds, h2, _⟩
  · rw [h2] at hk; cases hk
  · rw [h2] at hk; cases hk
  · exact ⟨_, kvs, by rw [h3, ents_W]; rfl, h2, .of h4⟩
  · rw [h2] at hk; cases hk
theorem cell_dk {m : List (Key × D)} {kvs : List (Key × V)} {a : Addr} (e : H a = some (.dK kvs)) (h : RepM c H φ m kvs) : Cell c H φ (dkW m) a :=
  .inr (.inl ⟨kvs, m.map (·.2), e, by rw [← h.keys, ents_W, zip_fst_snd]; rfl, h.vals⟩)
theorem cell_dt {m : List (List Key × D)} {kvs : List (List Key × V)} {a : Addr} (e : H a = some (.dT kvs)) (h : RepM c H φ m kvs) : Cell c H φ (dtW m) a :=
  .inr (.inr (.inl ⟨kvs, m.map (·.2), e, by rw [← h.keys, ents_W, zip_fst_snd]; rfl, h.vals⟩))
theorem cell_lk {q : Obj} {m : List (Key × D)} {kvs : List (Key × V)} {a : Addr} (e : H a = some (.frz q (.dK kvs))) (h : RepM c H φ m kvs) : Cell c H φ (lkd (dkW m)) a :=
  .inr (.inr (.inr ⟨q, kvs, m.map (·.2), e, by rw [← h.keys, ents_W, zip_fst_snd]; rfl, h.vals⟩))
theorem RepM.ext {κ : Type} [DecidableEq κ] {H' : Hp} {φ' : List Addr} (hφ : ∀ a, a ∈ φ → kindO (H a) ≠ 0) (e : Ext H φ H' φ') : ∀ {m : List (κ × D)} {kvs : List (κ × V)}, RepM c H φ m kvs → RepM c H' φ' m kvs
  | [], kvs, h => by unfold RepM at h ⊢; exact h
  | p :: m, kvs, h => by
    unfold RepM at h ⊢
    obtain ⟨v, kr, rfl, h1, h2⟩ := h
    exact ⟨v, kr, rfl, RepV.ext hφ e _ _ h1, h2.ext hφ e⟩
theorem RepS.dk2 (r : RepS c H φ S) {l : Nat} {xs : List D} {a : Addr} (h : S[l]? = some xs) (ha : φ[l]? = some a) (hk : kindO (H a) = 2) : (∃ m kvs, xs = dkW m ∧ H a = some (.dK kvs) ∧ RepM c H φ m kvs) ∨ ∃ q m kvs, xs = lkd (dkW m) ∧ H a = some (.frz q (.dK kvs)) ∧ RepM c H φ m kvs := by
  obtain ⟨b, h1, h2⟩ := r.cell l xs h
  rw [ha] at h1
  cases h1
  exact h2.dk hk
theorem RepS.dk (r : RepS c H φ S) {l : Nat} {xs : List D} {a : Addr} (h : S[l]? = some xs) (ha : φ[l]? = some a) (hk : kindO (H a) = 2) (hn : dkR xs ≠ none) : ∃ m kvs, xs = dkW m ∧ H a = some (.dK kvs) ∧ RepM c H φ m kvs := by
  rcases r.dk2 h ha hk with h | ⟨q, m, kvs, rfl, _, _⟩
  · exact h
  · exact absurd (dkR_lk _) hn
theorem RepS.dkr (r : RepS c H φ S) {l : Nat} {xs : List D} {a : Addr} (h : S[l]? = some xs) (ha : φ[l]? = some a) (hk : kindO (H a) = 2) : ∃ m kvs, dkRr xs = some m ∧ Rd H a (.dK kvs) ∧ RepM c H φ m kvs := by
  rcases r.dk2 h ha hk with ⟨m, kvs, rfl, e, rm⟩ | ⟨q, m, kvs, rfl, e, rm⟩
  · exact ⟨m, kvs, dkRr_W m, .inl e, rm⟩
  · exact ⟨m, kvs, dkRr_lk m, .inr ⟨q, e⟩, rm⟩
theorem RepS.dt (r : RepS c H φ S) {l : Nat} {xs : List D} {a : Addr} (h : S[l]? = some xs) (ha : φ[l]? = some a) (hk : kindO (H a) = 3) : ∃ m kvs, xs = dtW m ∧ H a = some (.dT kvs) ∧ RepM c H φ m kvs := by
  obtain ⟨b, h1, h2⟩ := r.cell l xs h
  rw [ha] at h1
  cases h1
  exact h2.dt hk
theorem rep_keyD {k : Key} {v : V} (r : RepV c H φ (keyD k) v) : v = kV k := by
  cases k <;> (unfold keyD RepV at r; exact r)
theorem rep_keysD : ∀ {k : List Key} {vs : List V}, RepL c H φ (k.map keyD) vs → vs = k.map kV
  | [], vs, r => by unfold List.map RepL at r; exact r
  | k :: ks, vs, r => by
    rw [List.map_cons] at r
    unfold RepL at r
    obtain ⟨v, vr, rfl, h1, h2⟩ := r
    rw [rep_keyD h1, rep_keysD h2]
    rfl
end
/-! ### d[k], k in d, d[k] = v, new dicts -/
section
variable {X : Cx} {c : Cz} {W : WX} {a b d : Expr} {ea eb ed : Ev} {pos : Pos} {es : List Expr} {ra : EvA} {x : Str} {p : Pos}
def isDct : D → Bool
  | .dct _ => true
  | _ => false
def dIxD : Op2 := fun d e S => match d with
  | .dct l => ((S[l]?).bind dkRr).bind fun m => (keyOf e).bind fun k => (valD m k).map fun v => (v, S)
  | _ => dIx d e S
theorem units1 {A : Around} (hu : A.units + 64 < cLine) : A.units + 1 < cLine := by omega
theorem ixdD (hu : X.A.units + 64 < cLine) : IxD X c dIxD := fun kk => by
  intro value slice pins s σ H x y v u Q I rx ry ⟨φ, S, d, e, rs, r1, r2, o⟩ hs
  have go : isDct d = false → wpAny (model X.prog X.w) X.A (subscriptTail value slice v u) (EP X pins σ Q) X.xe s := fun hd => by
    have o' : OutO c H φ (RepV c) (dIx d e S) Q := by
      cases d <;> first
        | exact o
        | cases hd
    exact ixd kk value slice pins s σ H x y v u Q I rx ry ⟨φ, S, d, e, rs, r1, r2, o'⟩ hs
  cases d <;> first
    | exact go rfl
    | skip
  rename_i l
  unfold RepV at r1
  obtain ⟨a, rfl, ha, hk⟩ := r1
  replace o : OutO c H φ (RepV c) (((S[l]?).bind dkRr).bind fun m => (keyOf e).bind fun k => (valD m k).map fun v => (v, S)) Q := o
  cases q0 : S[l]? with
  | none => rw [q0] at o; exact o.elim
  | some xs =>
    obtain ⟨m, kvs, e0, e1, rm⟩ := rs.dkr q0 ha hk
    rw [q0, Option.bind_some, e0, Option.bind_some] at o
    cases q1 : keyOf e with
    | none => rw [q1] at o; exact o.elim
    | some k =>
      rw [q1, Option.bind_some] at o
      have q2 := keyOf_eq q1
      subst q2
      have ey := rep_keyD r2
      subst ey
      rcases rm.val k with ⟨z, _⟩ | ⟨d, w, z1, z2, z3⟩
      · rw [z] at o; exact o.elim
      · rw [z1] at o
        have o : OutO c H φ (RepV c) (some (d, S)) Q := o
        obtain rfl : v = Value.ref a := rx
        have g : DGet H a (kV k) (some w) := by rw [← z2]; exact .inl ⟨kvs, k, e1, rfl, rfl⟩
        exact tail_any (dict_typeIs I g) PySem.F.slot_dict_getitem.lookup (d_getItem (units1 hu) I g ry fun w' s' I' rw' => ⟨w, H, I', rw', o φ H w (.refl _ _) rs z3⟩) hs
def dInD : Op2 := fun d e S => match e with
  | .dct l => ((S[l]?).bind dkRr).bind fun m => (keyOf d).map fun k => (.bl (valD m k).isSome, S)
  | _ => dIn d e S
def dNotInD : Op2 := fun d e S => match e with
  | .dct l => ((S[l]?).bind dkRr).bind fun m => (keyOf d).map fun k => (.bl (!(valD m k).isSome), S)
  | _ => dNotIn d e S
theorem dct_in {d : D} {l : Nat} {x y : V} {v u : Value} {pins : List (Addr × Obj)} {σ : L2.St} {H : Hp} {s : Shared} {φ : List Addr} {S : Sto} {Q : VK} {f : Bool → Bool} (I : Inv X pins σ H s) (rx : RelV x v) (ry : RelV y u) (rs : RepS c H φ S) (r1 : RepV c H φ d x) (r2 : RepV c H φ (.dct l) y)
    (o : OutO c H φ (RepV c) (((S[l]?).bind dkRr).bind fun m => (keyOf d).map fun k => (D.bl (f (valD m k).isSome), S)) Q) : ∃ a ov, u = .ref a ∧ DGet H a x ov ∧ Q (.bl (f ov.isSome)) H := by
  unfold RepV at r2
  obtain ⟨a, rfl, ha, hk⟩ := r2
  obtain rfl : u = Value.ref a := ry
  cases q0 : S[l]? with
  | none => rw [q0] at o; exact o.elim
  | some xs =>
    obtain ⟨m, kvs, e0, e1, rm⟩ := rs.dkr q0 ha hk
    rw [q0, Option.bind_some, e0, Option.bind_some] at o
    cases q1 : keyOf d with
    | none => rw [q1] at o; exact o.elim
    | some k =>
      rw [q1] at o
      have q2 := keyOf_eq q1
      subst q2
      have ey := rep_keyD r1
      subst ey
      refine ⟨a, valV kvs k, rfl, .inl ⟨kvs, k, e1, rfl, rfl⟩, ?_⟩
      have e : (valD m k).isSome = (valV kvs k).isSome := by
        rcases rm.val k with ⟨z1, z2⟩ | ⟨d, w, z1, z2, _⟩ <;> rw [z1, z2] <;> rfl
      rw [← e]
      exact o φ H _ (.refl _ _) rs rep_bl
theorem od_inD (hu : X.A.units + 64 < cLine) : OpD X c (compareOp .In) dInD := fun kk => by
  intro pins s σ H x y v u Q I rx ry ⟨φ, S, d, e, rs, r1, r2, o⟩
  have go : isDct e = false → wpAny (model X.prog X.w) X.A (compareOp .In v u) (EP X pins σ Q) X.xe s := fun hd => by
    have o' : OutO c H φ (RepV c) (dIn d e S) Q := by
      cases e <;> first
        | exact o
        | cases hd
    exact od_in kk pins s σ H x y v u Q I rx ry ⟨φ, S, d, e, rs, r1, r2, o'⟩
  cases e <;> first
    | exact go rfl
    | skip
  obtain ⟨a, ov, rfl, g, q⟩ := dct_in (f := id) I rx ry rs r1 r2 o
  exact d_in (units1 hu) I g rx fun s' I' => ⟨.bl ov.isSome, H, I', rfl, q⟩
theorem od_notInD (hu : X.A.units + 64 < cLine) : OpD X c (compareOp .NotIn) dNotInD := fun kk => by
  intro pins s σ H x y v u Q I rx ry ⟨φ, S, d, e, rs, r1, r2, o⟩
  have go : isDct e = false → wpAny (model X.prog X.w) X.A (compareOp .NotIn v u) (EP X pins σ Q) X.xe s := fun hd => by
    have o' : OutO c H φ (RepV c) (dNotIn d e S) Q := by
      cases e <;> first
        | exact o
        | cases hd
    exact od_notIn kk pins s σ H x y v u Q I rx ry ⟨φ, S, d, e, rs, r1, r2, o'⟩
  cases e <;> first
    | exact go rfl
    | skip
  obtain ⟨a, ov, rfl, g, q⟩ := dct_in (f := Bool.not) I rx ry rs r1 r2 o
  exact d_notIn (units1 hu) I g rx fun s' I' => ⟨.bl (!ov.isSome), H, I', rfl, q⟩
def gSetD : D → D → D → Sto → Option Sto := fun o i v S => match o with
  | .dct l => ((S[l]?).bind dkR).bind fun m => (keyOf i).bind fun k => if m.length < most then some (S.set l (dkW (putD m k v))) else none
  | _ => gSet o i v S
theorem sd_dict (hu : X.A.units + 64 < cLine) : SetD X c gSetD := fun kk => by
  intro pins s σ H o i v ov iv u Q I ro ri rv ⟨φ, S, a, k, d, rs, r1, r2, r3, S', e, q⟩
  have go : isDct a = false → wpAny (model X.prog X.w) X.A (setItem ov iv u) (fun _ s' => ∃ H', Inv X pins σ H' s' ∧ Q H') X.xe s := fun hd => by
    have e' : gSet a k d S = some S' := by
      cases a <;> first
        | exact e
        | cases hd
    exact sd_list kk pins s σ H o i v ov iv u Q I ro ri rv ⟨φ, S, a, k, d, rs, r1, r2, r3, S', e', q⟩
  cases a <;> first
    | exact go rfl
    | skip
  rename_i l
  unfold RepV at r1
  obtain ⟨a, rfl, ha, hk⟩ := r1
  replace e : (((S[l]?).bind dkR).bind fun m => (keyOf k).bind fun k => if m.length < most then some (S.set l (dkW (putD m k d))) else none) = some S' := e
  cases q0 : S[l]? with
  | none => rw [q0] at e; cases e
  | some xs =>
    obtain ⟨m, kvs, rfl, e1, rm⟩ := rs.dk q0 ha hk fun z => by rw [q0, Option.bind_some, z] at e; cases e
    rw [q0, Option.bind_some, dkR_W, Option.bind_some] at e
    cases q1 : keyOf k with
    | none => rw [q1] at e; cases e
    | some k' =>
      rw [q1, Option.bind_some] at e
      have q2 := keyOf_eq q1
      subst q2
      have ey := rep_keyD r2
      subst ey
      by_cases hl : m.length < most
      · rw [if_pos hl] at e
        cases e
        obtain ⟨s2, e2⟩ := rs.writeC (o := .dK (putK kvs k' v)) (xs := dkW (putD m k' d)) ha (by rw [e1]; rfl) (fun _ _ z => by rw [e1] at z; cases z) fun e2 => cell_dk upd_same (RepM.ext rs.ls e2 (rm.put k' r3))
        refine set_dict (units1 hu) pins s σ H _ _ v ov iv u Q I ro ri rv ⟨a, _, rfl, .k e1 ?_, q _ e2 s2⟩
        rw [← rm.len]
        exact most_lt hl
      · rw [if_neg hl] at e
        cases e
def eNewK : Ev := fun _ S => .ok (.dct S.length) (S ++ [[]])
def eNewT : Ev := fun _ S => .ok (.dtt S.length) (S ++ [[]])
theorem me_newK : ME X c W (.Dict [] [] pos) eNewK := fun s => by
  refine PE.imp pe_dnewK fun σ H Q ⟨φ, ρ, S, re, rs, o⟩ => ?_
  intro p hp
  obtain ⟨s2, e2⟩ := rs.pushC (o := .dK []) (xs := []) hp fun _ => cell_dk (m := []) (kvs := []) upd_same (by unfold RepM; rfl)
  refine o _ _ _ e2 s2 ?_
  unfold RepV
  refine ⟨p, rfl, ?_, by rw [upd_same]; rfl⟩
  rw [← rs.len, List.getElem?_append_right (Nat.le_refl _)]
  simp
theorem me_newT : ME X c W (.Dict [] [] pos) eNewT := fun s => by
  refine PE.imp pe_dnewT fun σ H Q ⟨φ, ρ, S, re, rs, o⟩ => ?_
  intro p hp
  obtain ⟨s2, e2⟩ := rs.pushC (o := .dT []) (xs := []) hp fun _ => cell_dt (m := []) (kvs := []) upd_same (by unfold RepM; rfl)
  refine o _ _ _ e2 s2 ?_
  unfold RepV
  refine ⟨p, rfl, ?_, by rw [upd_same]; rfl⟩
  rw [← rs.len, List.getElem?_append_right (Nat.le_refl _)]
  simp
/-! keys that are tuples, written as displays -/
def eGetT (eo : Ev) (ra : EvA) : Ev := fun ρ S => (eo ρ S).bind fun d S1 => (ra ρ S1).bind fun ds S2 => lift (match d with
  | .dtt l => ((S2[l]?).bind dtR).bind fun m => (keysOf ds).bind fun k => if ds.length ≤ 1000 then (valD m k).map fun v => (v, S2) else none
  | _ => none)
theorem me_getT {o : Expr} {eo : Ev} {x1 : Nat} {tp : Pos} (hu : X.A.units + 64 < cLine) (ho : ME X c W o eo) (ha : MA X c W es ra) (hs : NoSl (.Tuple es x1 tp) := by intro _ _; rfl) : ME X c W (.Subscript o (.Tuple es x1 tp) pos) (eGetT eo ra) := fun s => by
  refine PE.imp (pe_dget (units1 hu) (ho s) (pe_tup (ha s)) hs) fun σ H Q ⟨φ, ρ, S, re, rs, o⟩ => ?_
  refine ⟨φ, ρ, S, re, rs, Out.bind o fun d S1 φ1 H1 v1 e1 s1 r1 o1 => ?_⟩
  refine ⟨φ1, ρ, S1, re.ext rs e1, s1, Out.bind o1 fun ds S2 φ2 H2 vs e2 s2 r2 o2 => ?_⟩
  replace o2 := OutO.of o2
  cases d <;> first
    | exact False.elim o2
    | skip
  rename_i l
  replace o2 : OutO c H2 φ2 (RepV c) (((S2[l]?).bind dtR).bind fun m => (keysOf ds).bind fun k => if ds.length ≤ 1000 then (valD m k).map fun v => (v, S2) else none) Q := o2
  have r1 := RepV.ext s1.ls e2 _ _ r1
  unfold RepV at r1
  obtain ⟨a, rfl, ha, hk⟩ := r1
  cases q0 : S2[l]? with
  | none => rw [q0] at o2; exact o2.elim
  | some xs =>
    obtain ⟨m, kvs, rfl, f1, rm⟩ := s2.dt q0 ha hk
    rw [q0, Option.bind_some, dtR_W, Option.bind_some] at o2
    cases q1 : keysOf ds with
    | none => rw [q1] at o2; exact o2.elim
    | some k =>
      rw [q1, Option.bind_some] at o2
      have q2 := keysOf_eq q1
      subst q2
      have ey := rep_keysD r2
      subst ey
      by_cases hl : (k.map keyD).length ≤ 1000
      · rw [if_pos hl] at o2
        rcases rm.val k with ⟨z, _⟩ | ⟨d, w, z1, z2, z3⟩
        · rw [z] at o2; exact o2.elim
        · rw [z1] at o2
          replace o2 : OutO c H2 φ2 (RepV c) (some (d, S2)) Q := o2
          refine ⟨small1k (by rw [List.length_map] at hl ⊢; exact hl), fun p hp => ?_⟩
          obtain ⟨s3, e3⟩ := s2.keep (H' := upd H2 p (.tup (k.map kV))) (upd_keep hp)
          have na : a ≠ p := ne_of_none f1 hp
          exact ⟨a, w, rfl, by rw [← z2]; exact .t (by rw [upd_ne na]; exact f1) upd_same, o2 φ2 _ w e3 s3 (RepV.ext s2.ls e3 _ _ z3)⟩
      · rw [if_neg hl] at o2
        exact o2.elim
def sSetT (ev : Ev) (eo : Ev) (ra : EvA) : Es := fun ρ S => ofRes (ev ρ S) ρ fun v S1 => ofRes (eo ρ S1) ρ fun d S2 => ofRes (ra ρ S2) ρ fun ds S3 => match (match d with
  | .dtt l => ((S3[l]?).bind dtR).bind fun m => (keysOf ds).bind fun k => if ds.length ≤ 1000 ∧ m.length < most then some (S3.set l (dtW (putD m k v))) else none
  | _ => none) with
  | some S4 => .next ρ S4
  | none => .stuck
theorem ms_setT {o e : Expr} {eo ee : Ev} {x1 : Nat} {tp p2 : Pos} (hu : X.A.units + 64 < cLine) (he : ME X c W e ee) (ho : ME X c W o eo) (ha : MA X c W es ra) (hs : swapsWith e (some (.Subscript o (.Tuple es x1 tp) p2)) pos.line X.env = pure false := by rfl)
    (hn : NoSl (.Tuple es x1 tp) := by intro _ _; rfl) : MS X c W (.Assign [.Subscript o (.Tuple es x1 tp) p2] e pos) (sSetT ee eo ra) := fun s => by
  refine PS.imp (ps_dput (units1 hu) (ho s) (pe_tup (ha s)) (he s) hs) fun D σ H ⟨φ, ρ, S, re, rs, q⟩ => ?_
  refine ⟨φ, ρ, S, re, rs, flow_out re rs q fun x1 S1 φ1 H1 y1 e1 s1 r1 re1 o1 => ?_⟩
  refine ⟨φ1, ρ, S1, re1, s1, flow_out re1 s1 o1 fun x2 S2 φ2 H2 y2 e2 s2 r2 re2 o2 => ?_⟩
  refine ⟨φ2, ρ, S2, re2, s2, flow_out re2 s2 o2 fun ds S3 φ3 H3 vs e3 s3 r3 re3 o3 => ?_⟩
  cases x2 <;> first
    | exact False.elim o3
    | skip
  rename_i l
  have r2 := RepV.ext s2.ls e3 _ _ r2
  have r1 := RepV.ext s1.ls (e2.trans e3) _ _ r1
  unfold RepV at r2
  obtain ⟨a, rfl, ha, hk⟩ := r2
  replace o3 : OutF c W H3 φ3 (match ((S3[l]?).bind dtR).bind fun m => (keysOf ds).bind fun k => if ds.length ≤ 1000 ∧ m.length < most then some (S3.set l (dtW (putD m k x1))) else none with
    | some S4 => .next ρ S4
    | none => .stuck) D := o3
  cases q0 : S3[l]? with
  | none => rw [q0] at o3; exact o3.elim
  | some xs =>
    obtain ⟨m, kvs, rfl, f1, rm⟩ := s3.dt q0 ha hk
    rw [q0, Option.bind_some, dtR_W, Option.bind_some] at o3
    cases q1 : keysOf ds with
    | none => rw [q1] at o3; exact o3.elim
    | some k =>
      rw [q1, Option.bind_some] at o3
      have q2 := keysOf_eq q1
      subst q2
      have ey := rep_keysD r3
      subst ey
      by_cases hl : (k.map keyD).length ≤ 1000 ∧ m.length < most
      · rw [if_pos hl] at o3
        refine ⟨small1k (by have := hl.1; rw [List.length_map] at this ⊢; exact this), fun p hp => ?_⟩
        obtain ⟨s4, e4⟩ := s3.keep (H' := upd H3 p (.tup (k.map kV))) (upd_keep hp)
        have na : a ≠ p := ne_of_none f1 hp
        have f2 : upd H3 p (.tup (k.map kV)) a = some (.dT kvs) := by rw [upd_ne na]; exact f1
        obtain ⟨s5, e5⟩ := s4.writeC (o := .dT (putK kvs k y1)) (xs := dtW (putD m k x1)) ha (by rw [f2]; rfl) (fun _ _ z => by rw [f2] at z; cases z) fun e5 => cell_dt upd_same (RepM.ext s4.ls e5 ((RepM.ext s3.ls e4 rm).put k (RepV.ext s3.ls e4 _ _ r1)))
        exact ⟨a, _, rfl, .t f2 upd_same (by rw [← rm.len]; exact most_lt hl.2), o3 φ3 _ σ (e4.trans e5) s5 (re3.ext s3 (e4.trans e5))⟩
      · rw [if_neg hl] at o3
        exact o3.elim
end
end MP
end
section
set_option Elab.async false
set_option linter.all false
set_option maxRecDepth 100000
set_option maxHeartbeats 1000000
/-! MPL: dict comprehensions. -/
namespace MP
open PySem PySem.Spec PyProof.Rows L2
section
variable {c : Cz} {H : Hp} {φ : List Addr} {S : Sto} {p : Addr} {o o' : HO}
theorem apart {u : HO} {a : Addr} (hp : H p = some o) (h0 : kindO (some o) ≠ 0) (h : H a = some u) (hu : kindO (some u) = 0) : a ≠ p := fun q => by
  rw [q, hp] at h
  cases h
  exact h0 hu
theorem kind_apart (hp : H p = some o) (he : kindO (some o') = kindO (some o)) (a : Addr) : kindO (upd H p o' a) = kindO (H a) := by
  by_cases q : a = p
  · rw [q, upd_same, hp, he]
  · rw [upd_ne q]
mutual
theorem RepV.apart (hp : H p = some o) (h0 : kindO (some o) ≠ 0) (he : kindO (some o') = kindO (some o)) : ∀ (d : D) (v : V), RepV c H φ d v → RepV c (upd H p o') φ d v
  | .non, _, h => by unfold RepV at h ⊢; exact h
  | .bl _, _, h => by unfold RepV at h ⊢; exact h
  | .int _, _, h => by unfold RepV at h ⊢; exact h
  | .str _, _, h => by unfold RepV at h ⊢; exact h
  | .tup ds, _, h => by
    unfold RepV at h ⊢
    obtain ⟨a, xs, e1, e2, e3⟩ := h
    refine ⟨a, xs, e1, ?_, RepL.apart hp h0 he ds xs e3⟩
    rcases e2 with ⟨o, e4, e2⟩ | e2
    · exact .inl ⟨o, e4, by rw [upd_ne (MP.apart hp h0 e2 rfl)]; exact e2⟩
    · exact .inr e2
  | .wk ds, _, h => by
    unfold RepV at h ⊢
    obtain ⟨a, xs, e1, e2, e3⟩ := h
    refine ⟨a, xs, e1, ?_, RepL.apart hp h0 he ds xs e3⟩
    rcases e2 with (e2 | ⟨o, e2⟩) | e2
    · exact .inl (.inl (by rw [upd_ne (MP.apart hp h0 e2 rfl)]; exact e2))
    · exact .inl (.inr ⟨o, by rw [upd_ne (MP.apart hp h0 e2 rfl)]; exact e2⟩)
    · exact .inr e2
  | .lst l, _, h => by
    unfold RepV at h ⊢
    obtain ⟨a, e1, e2, e3⟩ := h
    exact ⟨a, e1, e2, (kind_apart hp he a).trans e3⟩
  | .dct l, _, h => by
    unfold RepV at h ⊢
    obtain ⟨a, e1, e2, e3⟩ := h
    exact ⟨a, e1, e2, (kind_apart hp he a).trans e3⟩
  | .dtt l, _, h => by
    unfold RepV at h ⊢
    obtain ⟨a, e1, e2, e3⟩ := h
    exact ⟨a, e1, e2, (kind_apart hp he a).trans e3⟩
  | .err n ns ds, _, h => by
    unfold RepV at h ⊢
    obtain ⟨a, C, d, vs, e1, e2, e3, e4, e5, e6⟩ := h
    exact ⟨a, C, d, vs, e1, e2, by rw [upd_ne (MP.apart hp h0 e3 rfl)]; exact e3, by rw [upd_ne (MP.apart hp h0 e4 rfl)]; exact e4, e5, RepL.apart hp h0 he ds vs e6⟩
  | .frl ds, _, h => by
    unfold RepV at h ⊢
    obtain ⟨a, xs, e1, e2, e3⟩ := h
    refine ⟨a, xs, e1, ?_, RepL.apart hp h0 he ds xs e3⟩
    rcases e2 with ⟨o, e2⟩ | e2
    · exact .inl ⟨o, by rw [upd_ne (MP.apart hp h0 e2 rfl)]; exact e2⟩
    · exact .inr e2
  | .exn n ns ds, _, h => by
    unfold RepV at h ⊢
    obtain ⟨a, cls, d, vs, e1, e2, e3, e4, e5, e6⟩ := h
    exact ⟨a, cls, d, vs, e1, e2, e3, by rw [upd_ne (MP.apart hp h0 e4 rfl)]; exact e4, e5, RepL.apart hp h0 he ds vs e6⟩
theorem RepL.apart (hp : H p = some o) (h0 : kindO (some o) ≠ 0) (he : kindO (some o') = kindO (some o)) : ∀ (ds : List D) (vs : List V), RepL c H φ ds vs → RepL c (upd H p o') φ ds vs
  | [], _, h => by unfold RepL at h ⊢; exact h
  | d :: ds, _, h => by
    unfold RepL at h ⊢
    obtain ⟨v, vr, e1, e2, e3⟩ := h
    exact ⟨v, vr, e1, RepV.apart hp h0 he d v e2, RepL.apart hp h0 he ds vr e3⟩
end
theorem RepM.apart {κ : Type} [DecidableEq κ] (hp : H p = some o) (h0 : kindO (some o) ≠ 0) (he : kindO (some o') = kindO (some o)) : ∀ {m : List (κ × D)} {kvs : List (κ × V)}, RepM c H φ m kvs → RepM c (upd H p o') φ m kvs
  | [], kvs, h => by unfold RepM at h ⊢; exact h
  | q :: m, kvs, h => by
    unfold RepM at h ⊢
    obtain ⟨v, kr, rfl, h1, h2⟩ := h
    exact ⟨v, kr, rfl, RepV.apart hp h0 he _ _ h1, h2.apart hp h0 he⟩
theorem RepS.apart (r : RepS c H φ S) (hp : H p = some o) (h0 : kindO (some o) ≠ 0) (he : kindO (some o') = kindO (some o)) (np : p ∉ φ) : RepS c (upd H p o') φ S := by
  refine ⟨r.nd, r.len, fun l xs h => ?_⟩
  obtain ⟨a, h1, h2⟩ := r.cell l xs h
  have ha : upd H p o' a = H a := upd_ne (fun q => np (by rw [← q]; exact List.mem_of_getElem? h1))
  refine ⟨a, h1, ?_⟩
  rcases h2 with ⟨vs, h2, h3⟩ | ⟨kvs, ds, h2, h3, h4⟩ | ⟨kvs, ds, h2, h3, h4⟩ | ⟨q0, kvs, ds, h2, h3, h4⟩
  · exact .inl ⟨vs, ha.trans h2, RepL.apart hp h0 he _ _ h3⟩
  · exact .inr (.inl ⟨kvs, ds, ha.trans h2, h3, RepL.apart hp h0 he _ _ h4⟩)
  · exact .inr (.inr (.inl ⟨kvs, ds, ha.trans h2, h3, RepL.apart hp h0 he _ _ h4⟩))
  · exact .inr (.inr (.inr ⟨q0, kvs, ds, ha.trans h2, h3, RepL.apart hp h0 he _ _ h4⟩))
theorem Ext.app (p : Addr) (e : ∀ b, b ∈ φ ++ [p] → b ∉ φ → H b = none) : Ext H φ H (φ ++ [p]) := ⟨List.prefix_append _ _, fun _ _ h _ => h, e, fun _ _ => rfl, fun _ _ _ h => h⟩
theorem RepM.grow {κ : Type} [DecidableEq κ] : ∀ {m : List (κ × D)} {kvs : List (κ × V)}, RepM c H φ m kvs → RepM c H (φ ++ [p]) m kvs
  | [], kvs, h => by unfold RepM at h ⊢; exact h
  | q :: m, kvs, h => by
    unfold RepM at h ⊢
    obtain ⟨v, kr, rfl, h1, h2⟩ := h
    exact ⟨v, kr, rfl, RepS.adopt.growV _ _ h1, h2.grow⟩
theorem RepS.adoptC {xs : List D} (r : RepS c H φ S) (np : p ∉ φ) (hx : Cell c H (φ ++ [p]) xs p) : RepS c H (φ ++ [p]) (S ++ [xs]) := by
  refine ⟨?_, by simp [r.len], fun l ys h => ?_⟩
  · rw [List.nodup_append]
    refine ⟨r.nd, by simp, fun a ha b hb => ?_⟩
    simp at hb
    subst hb
    exact fun q => np (q ▸ ha)
  · by_cases hl : l < S.length
    · rw [List.getElem?_append_left hl] at h
      obtain ⟨a, h1, h2⟩ := r.cell l ys h
      refine ⟨a, pre_get (List.prefix_append _ _) h1, ?_⟩
      rcases h2 with ⟨vs, h2, h3⟩ | ⟨kvs, ds, h2, h3, h4⟩ | ⟨kvs, ds, h2, h3, h4⟩ | ⟨q0, kvs, ds, h2, h3, h4⟩
      · exact .inl ⟨vs, h2, RepS.adopt.grow _ _ h3⟩
      · exact .inr (.inl ⟨kvs, ds, h2, h3, RepS.adopt.grow _ _ h4⟩)
      · exact .inr (.inr (.inl ⟨kvs, ds, h2, h3, RepS.adopt.grow _ _ h4⟩))
      · exact .inr (.inr (.inr ⟨q0, kvs, ds, h2, h3, RepS.adopt.grow _ _ h4⟩))
    · have hl' : l < (S ++ [xs]).length := (List.getElem?_eq_some_iff.mp h).1
      have el : l = S.length := by simp at hl'; omega
      subst el
      rw [List.getElem?_append_right (Nat.le_refl _)] at h
      simp at h
      subst h
      refine ⟨p, ?_, hx⟩
      rw [← r.len, List.getElem?_append_right (Nat.le_refl _)]
      simp
end
open Classical in
noncomputable def dcLoop (st : Sto → Prop) (b : D → Env → Option Env) (t : EvB) (ek ev : Ev) (ρ : Env) : List D → List (Key × D) → Sto → Res (List (Key × D))
  | [], m, S => if st S then .ok m S else .stuck
  | x :: xs, m, S => if st S then (match b x ρ with
    | none => .stuck
    | some ρ1 => match t ρ1 S with
      | .ok k S1 => if k = true then (match ek ρ1 S1 with
          | .ok y S2 => match ev ρ1 S2 with
            | .ok z S3 => match keyOf y with
              | some k => if m.length < 1000000 then dcLoop st b t ek ev ρ xs (putD m k z) S3 else .stuck
              | none => .stuck
            | .exc .. => .stuck
            | .stuck => .stuck
          | .exc .. => .stuck
          | .stuck => .stuck) else dcLoop st b t ek ev ρ xs m S1
      | .exc .. => .stuck
      | .stuck => .stuck) else .stuck
noncomputable def eDc (src : Env → Sto → Res Src) (b : D → Env → Option Env) (t : EvB) (ek ev : Ev) (vs : List Nat) : Ev := fun ρ S => (src ρ S).bind fun z S1 => (dcLoop z.st b t ek ev (wipeE ρ vs) z.xs [] S1).bind fun m S2 => .ok (.dct S2.length) (S2 ++ [dkW m])
section
variable {X : Cx} {c : Cz} {W : WX} {a b d : Expr} {ea eb ed : Ev} {pos : Pos} {tg : Expr}
theorem dc_read {σ : St} {H : Hp} {Q : VK} {src : Env → Sto → Res Src} {g : D → Env → Option Env} {vs own : List Nat} {et : EvB} {ek ee : Ev} (hv : ∀ j ∈ vs, j ∈ own)
    (h : TEm c W (eDc src g et ek ee own) σ H Q) : tDc (TIm c W src) (TGm c vs g) (TTm c W0 et) (TEm c W0 ek) (TEm c W0 ee) own σ H Q := by
  obtain ⟨φ, ρ, S, re, rs, o⟩ := h
  refine ⟨φ, ρ, S, re, rs, Out.bind o fun z S1 φ1 H1 J e1 s1 it o1 => ?_⟩
  have re1 := re.ext rs e1
  intro D' hD
  have npD : D' ∉ φ1 := fun m => by
    have q := s1.isl m
    rw [hD] at q
    exact q rfl
  have e0 : Ext H1 φ1 (upd H1 D' (.dK [])) φ1 := (s1.keep (upd_keep hD)).2
  refine ⟨fun i m H2 => m = z.xs.length - i ∧ i ≤ z.xs.length ∧ ∃ φ2 S2 acc kvs, Ext H1 φ1 H2 φ2 ∧ RepS c H2 φ2 S2 ∧ H2 D' = some (.dK kvs) ∧ D' ∉ φ2 ∧ RepM c H2 φ2 acc kvs ∧
      Out c H1 φ1 (RepV c) ((dcLoop z.st g et ek ee (wipeE ρ own) (z.xs.drop i) acc S2).bind fun m S2 => .ok (.dct S2.length) (S2 ++ [dkW m])) Q (fun cls d H' => W cls d σ H'),
    ⟨z.xs.length, by simp, Nat.zero_le _, φ1, S1, [], [], e0, (s1.keep (upd_keep hD)).1, upd_same, npD, by unfold RepM; rfl, o1⟩, ?_⟩
  rintro i m H2 ⟨rfl, hle, φ2, S2, acc, kvs, e2, s2, h2D, n2D, ra, o2⟩
  by_cases hlt : i < z.xs.length
  · refine .inr ?_
    have hx : z.xs[i]? = some z.xs[i] := List.getElem?_eq_getElem hlt
    rw [List.drop_eq_getElem_cons hlt] at o2
    unfold dcLoop at o2
    split at o2
    · rename_i hst
      obtain ⟨go, yl⟩ := (it H2 φ2 S2 i e2 s2 hst).1 _ hx
      split at o2
      · exact o2.elim
      · rename_i ρ3 eg
        refine ⟨go, fun H' => i + 1 ≤ z.xs.length ∧ ∃ φ2 S2 acc kvs, Ext H1 φ1 H' φ2 ∧ RepS c H' φ2 S2 ∧ H' D' = some (.dK kvs) ∧ D' ∉ φ2 ∧ RepM c H' φ2 acc kvs ∧
            Out c H1 φ1 (RepV c) ((dcLoop z.st g et ek ee (wipeE ρ own) (z.xs.drop (i + 1)) acc S2).bind fun m S2 => .ok (.dct S2.length) (S2 ++ [dkW m])) Q (fun cls d H' => W cls d σ H'),
          fun H' n => ⟨z.xs.length - (i + 1), by omega, rfl, n⟩, fun v H3 y => ?_⟩
        obtain ⟨e3, s3, r3⟩ := yl v H3 y
        obtain ⟨h3D, n3D⟩ := e3.stays h2D n2D
        have ra3 := RepM.ext s2.ls e3 ra
        have e13 := e2.trans e3
        refine ⟨φ2, wipeE ρ own, S2, _, ρ3, (re1.ext s1 e13).wipe own, s3, r3, eg, fun σ3 re3 sb => ⟨?_, φ2, ρ3, S2, re3, s3, ?_⟩⟩
        · have := wipe_eq own (σ := wipe σ own) (σ' := σ3) sb.1 fun j hj => sb.2 j fun q => hj (hv j q)
          rw [this]
          exact wipe_eq own (by rw [wipe_length]) fun j hj => (wipe_at own σ j).2 hj
        · revert o2
          cases et ρ3 S2 with
          | ok k S4 =>
            intro o2 φ4 H4 k' e4 s4 hk
            unfold eqB at hk
            subst hk
            obtain ⟨h4D, n4D⟩ := e4.stays h3D n3D
            have ra4 := RepM.ext s3.ls e4 ra3
            have e14 := e13.trans e4
            cases k with
            | true =>
              refine iteT ⟨φ4, ρ3, S4, re3.ext s3 e4, s4, ?_⟩
              simp only [if_true] at o2
              revert o2
              cases ek ρ3 S4 with
              | ok dk S5 =>
                intro o2 φ5 H5 y5 e5 s5 r5
                obtain ⟨h5D, n5D⟩ := e5.stays h4D n4D
                have ra5 := RepM.ext s4.ls e5 ra4
                have e15 := e14.trans e5
                refine ⟨φ5, ρ3, S5, (re3.ext s3 e4).ext s4 e5, s5, ?_⟩
                simp only at o2
                revert o2
                cases ee ρ3 S5 with
                | ok dv S6 =>
                  intro o2 φ6 H6 z6 e6 s6 r6
                  obtain ⟨h6D, n6D⟩ := e6.stays h5D n5D
                  have ra6 := RepM.ext s5.ls e6 ra5
                  have e16 := e15.trans e6
                  have r5' := RepV.ext s5.ls e6 _ _ r5
                  simp only at o2
                  cases hk : keyOf dk with
                  | none => rw [hk] at o2; exact o2.elim
                  | some k =>
                    rw [hk] at o2
                    simp only at o2
                    have q2 := keyOf_eq hk
                    subst q2
                    have ey := rep_keyD r5'
                    subst ey
                    by_cases hlen : acc.length < 1000000
                    · rw [if_pos hlen] at o2
                      refine ⟨kvs, k, rfl, h6D, ?_, hlt, φ6, S6, putD acc k dv, putK kvs k z6, ?_, s6.apart (o' := .dK (putK kvs k z6)) h6D (by intro q; cases q) rfl n6D, upd_same, n6D, RepM.apart (o' := .dK (putK kvs k z6)) h6D (by intro q; cases q) rfl (ra6.put k r6), o2⟩
                      · rw [← ra.len]
                        exact Nat.lt_trans hlen (by decide)
                      · refine ⟨e16.pre, fun b o hb nb => ?_, e16.new, fun b hb => (kind_apart h6D (o' := .dK (putK kvs k z6)) rfl b).trans (e16.kind b hb), fun b q u hb => by rw [upd_ne (ne_of_none hb hD)]; exact e16.lock b q u hb⟩
                        rw [upd_ne (ne_of_none hb hD)]
                        exact e16.keep b o hb nb
                    · rw [if_neg hlen] at o2
                      exact o2.elim
                | exc n ns ds S6 => intro o2; exact o2.elim
                | stuck => intro o2; exact o2.elim
              | exc n ns ds S5 => intro o2; exact o2.elim
              | stuck => intro o2; exact o2.elim
            | false =>
              exact iteF ⟨hlt, φ4, S4, acc, kvs, e14, s4, h4D, n4D, ra4, o2⟩
          | exc n ns ds S4 => intro o2; exact o2.elim
          | stuck => intro o2; exact o2.elim
    · exact o2.elim
  · refine .inl ?_
    have : z.xs.drop i = [] := List.drop_eq_nil_of_le (by omega)
    rw [this] at o2
    unfold dcLoop at o2
    split at o2
    · rename_i hst
      refine ⟨(it H2 φ2 S2 i e2 s2 hst).2 (by omega), o2 (φ2 ++ [D']) H2 _ ?_ (s2.adoptC n2D (cell_dk h2D ra.grow)) ?_⟩
      · refine ⟨e2.pre.trans (List.prefix_append _ _), e2.keep, fun b hb nb => ?_, e2.kind, e2.lock⟩
        rcases List.mem_append.mp hb with hb | hb
        · exact e2.new b hb nb
        · simp at hb
          subst hb
          exact hD
      · unfold RepV
        refine ⟨D', rfl, ?_, by rw [h2D]; rfl⟩
        rw [← s2.len, List.getElem?_append_right (Nat.le_refl _)]
        simp
    · exact o2.elim
theorem me_dc {kx vx iter : Expr} {ifs : List Expr} {scope : Scope} {own : List (Str × Nat)} {src : Env → Sto → Res Src} {g : D → Env → Option Env} {vs : List Nat} {et : EvB} {ek ee : Ev}
    (hi : MI X c W tg iter src) (ok : BlkOk X.N X.env.scope scope own) (hg : ∀ (s : Shared) (H : Hp) (C : Addr) (cl : List (Str × Addr)) (fp : List Addr), MG (X.blk s H scope (compEnvC scope cl C X.env) fp) c tg vs g)
    (ht : ∀ (s : Shared) (H : Hp) (C : Addr) (cl : List (Str × Addr)) (fp : List Addr), MTs (X.blk s H scope (compEnvC scope cl C X.env) fp) c W0 ifs et) (hk : ∀ (s : Shared) (H : Hp) (C : Addr) (cl : List (Str × Addr)) (fp : List Addr), ME (X.blk s H scope (compEnvC scope cl C X.env) fp) c W0 kx ek)
    (he : ∀ (s : Shared) (H : Hp) (C : Addr) (cl : List (Str × Addr)) (fp : List Addr), ME (X.blk s H scope (compEnvC scope cl C X.env) fp) c W0 vx ee)
    (hv : ∀ j ∈ vs, j ∈ own.map (·.2)) (hc : X.calm = true := by rfl) (hs : ∀ x, foldedSetIterable iter X.env x = pure x := by intro _; rfl) :
    ME X c W (.DictComp kx vx [⟨tg, iter, ifs, 0⟩] scope pos) (eDc src g et ek ee (own.map (·.2))) := fun s => by
  refine PE.imp (pe_dc hc s.nd (hi s) ok (fun s' H C cl fp => hg s' H C cl fp s.kk s.nd) (fun s' H C cl fp => ht s' H C cl fp (s.blk ..)) (fun s' H C cl fp => hk s' H C cl fp (s.blk ..)) (fun s' H C cl fp => he s' H C cl fp (s.blk ..)) hs) fun σ H Q h => ?_
  exact dc_read hv h
theorem sw_dc {kx vx : Expr} {gs : List Comprehension} {scope : Scope} {pos py : Pos} {y : Str} {l : Nat} {env : PySem.Env} (hk : env.scope.kind = .function) (hy : env.scope.names.lookup y = some .local) (hl : (py.line == pos.line) = true)
    (ha : (scope.names.any fun (n, k) => n == y && (k == .local || k == .cell)) = false) : swapsWith (.DictComp kx vx gs scope pos) (some (.Name y py)) l env = pure true := by
  have e1 : env.kindOf y = some .local := hy
  have e2 : env.blockKind = .function := by
    unfold Env.blockKind
    rw [hk]
    rfl
  unfold swapsWith
  simp only [e2, e1, ha, Expr.pos, hl]
  rfl
theorem ps_setDc {i : Nat} {y : Str} {py : Pos} {kx vx iter : Expr} {ifs : List Expr} {scope : Scope} {own : List (Str × Nat)} {spos : Pos} {wi : TI} {g : TG} {tt : TT} {tk tv : TE} (hc : X.calm = true) (hN : X.N.Nodup) (hy : X.N[i]? = some y) (hyl : X.env.scope.names.lookup y = some .local)
    (hsw : swapsWith (.DictComp kx vx [⟨tg, iter, ifs, 0⟩] scope pos) (some (.Name y py)) spos.line X.env = pure true) (hi : PI X tg iter wi) (ok : BlkOk X.N X.env.scope scope own)
    (hg : ∀ (s : Shared) (H : Hp) (C : Addr) (cl : List (Str × Addr)) (fp : List Addr), PG (X.blk s H scope (compEnvC scope cl C X.env) fp) tg g)
    (ht : ∀ (s : Shared) (H : Hp) (C : Addr) (cl : List (Str × Addr)) (fp : List Addr), PTs (X.blk s H scope (compEnvC scope cl C X.env) fp) ifs tt)
    (hk : ∀ (s : Shared) (H : Hp) (C : Addr) (cl : List (Str × Addr)) (fp : List Addr), PE (X.blk s H scope (compEnvC scope cl C X.env) fp) kx tk)
    (he : ∀ (s : Shared) (H : Hp) (C : Addr) (cl : List (Str × Addr)) (fp : List Addr), PE (X.blk s H scope (compEnvC scope cl C X.env) fp) vx tv)
    (hs : ∀ x, foldedSetIterable iter X.env x = pure x := by intro _; rfl) :
    PS X (.Assign [.Name y py] (.DictComp kx vx [⟨tg, iter, ifs, 0⟩] scope pos) spos) (tAsg (tDc wi g tt tk tv (own.map (·.2))) (gName i)) := by
  refine ⟨fun pins s σ H D I h => ?_⟩
  rw [exec_Assign_Name_used _ _ _ _ hsw]
  refine wpAny_bind (wpAny_standAt (wpAny_bind ?_))
  show wpAny _ X.A (do
    let _ ← comprehension (.DictComp kx vx [⟨tg, iter, ifs, 0⟩] scope pos) scope X.env (firstIterPos [⟨tg, iter, ifs, 0⟩] pos) newDict false (eval iter X.env) (some (assign (.Name y py) X.env))) _ _ s
  have h : tDc wi g tt tk tv (own.map (·.2)) σ H (fun x H1 => gName i x σ H1 D.nx) := h
  refine wpAny_bind (thn (dc_core (Qf := fun _ s' => SP X pins D .next s') hc hN I hi ok hg ht hk he hs h fun L C s' m H' I' q hn f => ?_)
    fun _ s' hq => wpAny_pure (wpAny_pure hq))
  show wpAny _ _ (assign (.Name y py) X.env (.ref L))
    _ _ _
  refine wpAny_assign_Name (store_ok2 (v := V.ref L) I' hN hy (.inl hyl) rfl
    (fun s2 I2 ⟨a, sb, ha⟩ => ?_) (.inr hyl))
  obtain ⟨f0, f1, f2, f3, f4, f5⟩ := f
  have neq : C ≠ a := by
    rcases ha with z | z
    · rw [z]
      exact f1
    · exact fun e => f4 y a z e.symm
  refine ⟨m, hn.sameBut sb neq, fun h3 sb3 => ⟨_, H', I2.turned (t' := s2.toks)
    (fun b o hb e => (sb3.2 b hb).trans e) f0 f1 f3 f4 f5, q⟩⟩
theorem ms_setDc (i : Nat) {y : Str} {py : Pos} {kx vx iter : Expr} {ifs : List Expr} {scope : Scope} {own : List (Str × Nat)} {src : Env → Sto → Res Src} {g : D → Env → Option Env} {vs : List Nat} {et : EvB} {ek ee : Ev} {spos : Pos}
    (hi : MI X c W tg iter src) (ok : BlkOk X.N X.env.scope scope own) (hg : ∀ (s : Shared) (H : Hp) (C : Addr) (cl : List (Str × Addr)) (fp : List Addr), MG (X.blk s H scope (compEnvC scope cl C X.env) fp) c tg vs g)
    (ht : ∀ (s : Shared) (H : Hp) (C : Addr) (cl : List (Str × Addr)) (fp : List Addr), MTs (X.blk s H scope (compEnvC scope cl C X.env) fp) c W0 ifs et) (hk : ∀ (s : Shared) (H : Hp) (C : Addr) (cl : List (Str × Addr)) (fp : List Addr), ME (X.blk s H scope (compEnvC scope cl C X.env) fp) c W0 kx ek)
    (he : ∀ (s : Shared) (H : Hp) (C : Addr) (cl : List (Str × Addr)) (fp : List Addr), ME (X.blk s H scope (compEnvC scope cl C X.env) fp) c W0 vx ee)
    (hv : ∀ j ∈ vs, j ∈ own.map (·.2)) (hy : X.N[i]? = some y := by rfl) (hyl : X.env.scope.names.lookup y = some .local := by rfl) (hsw : swapsWith (.DictComp kx vx [⟨tg, iter, ifs, 0⟩] scope pos) (some (.Name y py)) spos.line X.env = pure true := by exact sw_dc rfl rfl rfl (by decide +kernel))
    (hc : X.calm = true := by rfl) (hs : ∀ x, foldedSetIterable iter X.env x = pure x := by intro _; rfl) :
    MS X c W (.Assign [.Name y py] (.DictComp kx vx [⟨tg, iter, ifs, 0⟩] scope pos) spos) (sAsg i (eDc src g et ek ee (own.map (·.2)))) := fun s => by
  refine PS.imp (ps_setDc hc s.nd hy hyl hsw (hi s) ok (fun s' H C cl fp => hg s' H C cl fp s.kk s.nd) (fun s' H C cl fp => ht s' H C cl fp (s.blk ..)) (fun s' H C cl fp => hk s' H C cl fp (s.blk ..)) (fun s' H C cl fp => he s' H C cl fp (s.blk ..)) hs) fun D' σ H ⟨φ, ρ, S, re, rs, o⟩ => ?_
  refine dc_read (W := W) hv (Q := fun x H1 => gName i x σ H1 D'.nx) ⟨φ, ρ, S, re, rs, flow_out re rs o fun x S' φ' H' y e s' q re' o' => ?_⟩
  exact o' φ' H' _ (.refl _ _) s' (re'.set q)
end
end MP
namespace MP
open PySem PySem.Spec PyProof.Rows L2
section
variable {X : Cx} {c : Cz} {W : WX} {a b d : Expr} {ea eb ed : Ev} {pos : Pos} {tg : Expr} {ra : EvA} {p : Pos}
/-! tuple(range(n)), list(range(a, b)) -/
def tTupRgN (te : L2.St → Hp → (Int → Int → Hp → Prop) → Prop) : TE := fun σ H Q => te σ H fun i j H1 => RgOk i j ∧ NewT Q H1 (rgV i j)
theorem pe_tupRgN {e : Expr} {te : L2.St → Hp → (Int → Int → Hp → Prop) → Prop} (hc : X.calm = true) (hg : Gl X "tuple") (hm : X.mg "tuple" = none) (he : PRg X e te) (na : starEach [e] X.env = (false, eval e X.env) :: starEach [] X.env := by rfl) :
    PE X (.Call (.Name "tuple" p) [e] [] pos) (tTupRgN te) := ⟨fun pins s σ H Q I h => by
  refine Call_ (ld_blt I hg hm boot_tuple ?_)
  refine PyProof.Rows.callWith_type1 (PyProof.Rows.args_cons (thn (he pins s σ H _ I h)
    fun x s1 ⟨r, i, j, t, u, v, H1, ex, hr, I1, ok, q⟩ => PyProof.Rows.args_nil ?_) na) na
  rw [ex]
  have hz : (rgV i j).length ≤ sizeLine := by
    have := ok.2.2.2.2
    rw [rgV_length, sizeLine_eq]
    omega
  refine call_tuple_range (n := (j - i).toNat) (I1.ok.hd hc) hr (small_one ok.1 ok.2.1 ok.2.2.1 ok.2.2.2.1) (rangeSize_nat i j) ok.2.2.2.2
    fun h' tk acc hk hi => ?_
  have J : Inv X pins σ H1 { s1 with heap := h', toks := tk } := I1.kept hk
  have z := newN (t' := tk) J hz (vals_rg hi) q
  rw [Array.toArray_toList] at z
  exact z⟩
theorem rgV_rep2 {H : Hp} {φ : List Addr} (i j : Int) : RepL c H φ (rngL i (j - i).toNat) (rgV i j) := by
  have key : ∀ (l : List Nat), RepL c H φ (l.map fun (k : Nat) => D.int (i + (k : Int))) (l.map fun (k : Nat) => V.int (i + (k : Int))) := fun l => by
    induction l with
    | nil => exact .nil
    | cons k l ih => exact .cons (by unfold RepV; rfl) ih
  have e : rgV i j = (List.range (j - i).toNat).map fun (k : Nat) => V.int (i + (k : Int)) := by
    unfold rgV
    simp
  rw [e]
  exact key _
def dTupRg (d : D) (S : Sto) : Option (D × Sto) := match d with
  | .int n => if n < 1000000 ∧ -1000000 < n then some (.tup (rngL 0 n.toNat), S) else none
  | _ => none
theorem me_tupRg {p2 q : Pos} (h : ME X c W a ea) (hm : X.mg "tuple" = none) (hm2 : X.mg "range" = none) (hg : Gl X "tuple" := by rfl) (hg2 : Gl X "range" := by rfl) (hc : X.calm = true := by rfl) (na : starEach [a] X.env = (false, eval a X.env) :: starEach [] X.env := by rfl)
    (na2 : starEach [.Call (.Name "range" p2) [a] [] q] X.env = (false, eval (.Call (.Name "range" p2) [a] [] q) X.env) :: starEach [] X.env := by rfl) :
    ME X c W (.Call (.Name "tuple" p) [.Call (.Name "range" p2) [a] [] q] [] pos) (eU dTupRg ea) := fun s => by
  refine PE.imp (pe_tupRgN hc hg hm (prg_1 hg2 hm2 (h s) na) na2) fun σ H Q ⟨φ, ρ, S, re, rs, o⟩ => ?_
  refine ⟨φ, ρ, S, re, rs, Out.bind o fun x S1 φ1 H1 v e1 s1 r1 o1 => ?_⟩
  replace o1 := OutO.of o1
  cases x <;> first
    | exact False.elim o1
    | skip
  rename_i n
  unfold RepV at r1
  subst r1
  unfold dTupRg at o1
  by_cases hl : n < 1000000 ∧ -1000000 < n
  · simp only [if_pos hl] at o1
    exact ⟨n, rfl, ⟨by omega, by omega, by omega, by omega, by omega⟩, new_tup s1 (rgV_rep n) o1⟩
  · simp only [if_neg hl] at o1
    exact o1.elim
def dListRg2 : Op2 := fun d e S => match d, e with
  | .int i, .int j => if (i < 1000000 ∧ -1000000 < i) ∧ j < 1000000 ∧ -1000000 < j then some (.lst S.length, S ++ [rngL i (j - i).toNat]) else none
  | _, _ => none
theorem me_listRg2 {p2 q : Pos} (ha : ME X c W a ea) (hb : ME X c W b eb) (hm : X.mg "list" = none) (hm2 : X.mg "range" = none) (hg : Gl X "list" := by rfl) (hg2 : Gl X "range" := by rfl) (hc : X.calm = true := by rfl)
    (na : starEach [a, b] X.env = (false, eval a X.env) :: starEach [b] X.env := by rfl) (nb : starEach [b] X.env = (false, eval b X.env) :: starEach [] X.env := by rfl) (hp : (backTo q (starEach [b] X.env)).any (·.1) = false := by rfl)
    (na2 : starEach [.Call (.Name "range" p2) [a, b] [] q] X.env = (false, eval (.Call (.Name "range" p2) [a, b] [] q) X.env) :: starEach [] X.env := by rfl) :
    ME X c W (.Call (.Name "list" p) [.Call (.Name "range" p2) [a, b] [] q] [] pos) (eB dListRg2 ea eb) := fun s => by
  refine PE.imp (pe_listRg hc hg hm (prg_2 hg2 hm2 (ha s) (hb s) na nb hp) na2) fun σ H Q ⟨φ, ρ, S, re, rs, o⟩ => ?_
  refine ⟨φ, ρ, S, re, rs, Out.bind o fun x S1 φ1 H1 v e1 s1 r1 o1 => ?_⟩
  refine ⟨φ1, ρ, S1, re.ext rs e1, s1, Out.bind o1 fun y S2 φ2 H2 w e2 s2 r2 o2 => ?_⟩
  replace o2 := OutO.of o2
  cases x <;> cases y <;> first
    | exact False.elim o2
    | skip
  rename_i i j
  unfold RepV at r1 r2
  subst r1 r2
  unfold dListRg2 at o2
  by_cases hl : (i < 1000000 ∧ -1000000 < i) ∧ j < 1000000 ∧ -1000000 < j
  · simp only [if_pos hl] at o2
    exact ⟨i, j, rfl, rfl, ⟨by omega, by omega, by omega, by omega, by omega⟩, new_list s2 (rgV_rep2 i j) o2⟩
  · simp only [if_neg hl] at o2
    exact o2.elim
end
end MP
end
section
set_option Elab.async false
set_option linter.all false
set_option maxRecDepth 100000
set_option maxHeartbeats 1000000
/-! MPN: the module's constants; range with a step. -/
namespace MP
open PySem PySem.Spec PyProof.Rows L2
/-! constants: ints, texts, truth values, tuples of these, as the written part has them -/
mutual
def conB (K : PySem.W.Frag) : D → Value → Bool
  | .int i, .int j _ => decide (i = j)
  | .str x, .str y _ => decide (x = y)
  | .bl b, .bool k => decide (b = k)
  | .non, .none => true
  | .tup ds, .ref a => match K.lookup a with
    | some o => o.dict.isNone && (decide (o.cls = .type "tuple") && (match o.data with
      | .seq its _ => decide (its.size ≤ 1000) && conL K ds its.toList
      | _ => false))
    | none => false
  | _, _ => false
def conL (K : PySem.W.Frag) : List D → List Value → Bool
  | [], [] => true
  | d :: ds, u :: us => conB K d u && conL K ds us
  | _, _ => false
end
section
variable {c : Cz} {H : Hp} {φ : List Addr}
mutual
theorem conB_ok : ∀ (d : D) (u : Value), conB c.K d u = true → ∃ v, RelV v u ∧ ∀ (H : Hp) (φ : List Addr), RepV c H φ d v := fun d u h => by
  match d, u, h with
  | .int i, .int j t, h =>
    unfold conB at h
    have := of_decide_eq_true h
    subst this
    exact ⟨.int i, ⟨t, rfl⟩, fun H φ => by unfold RepV; rfl⟩
  | .str x, .str y t, h =>
    unfold conB at h
    have := of_decide_eq_true h
    subst this
    exact ⟨.str x, ⟨t, rfl⟩, fun H φ => by unfold RepV; rfl⟩
  | .bl b, .bool k, h =>
    unfold conB at h
    have := of_decide_eq_true h
    subst this
    exact ⟨.bl b, rfl, fun H φ => by unfold RepV; rfl⟩
  | .non, .none, h => exact ⟨.non, rfl, fun H φ => by unfold RepV; rfl⟩
  | .tup ds, .ref a, h =>
    unfold conB at h
    split at h
    · rename_i o ho
      simp only [Bool.and_eq_true] at h
      obtain ⟨h1, h2, h3⟩ := h
      split at h3
      · rename_i its n hd
        simp only [Bool.and_eq_true] at h3
        obtain ⟨h3, h4⟩ := h3
        obtain ⟨vs, hv, hr⟩ := conL_ok ds its.toList h4
        refine ⟨.ref a, rfl, fun H φ => ?_⟩
        unfold RepV
        refine ⟨a, vs, rfl, .inr ⟨o, its, n, by simpa using h1, ho, of_decide_eq_true h2, hd, ?_, hv⟩, hr H φ⟩
        have := of_decide_eq_true h3
        rw [sizeLine_eq]
        omega
      · cases h3
    · cases h
theorem conL_ok : ∀ (ds : List D) (us : List Value), conL c.K ds us = true → ∃ vs, Vals vs us ∧ ∀ (H : Hp) (φ : List Addr), RepL c H φ ds vs := fun ds us h => by
  match ds, us, h with
  | [], [], _ => exact ⟨[], .nil, fun H φ => .nil⟩
  | d :: ds, u :: us, h =>
    unfold conL at h
    rw [Bool.and_eq_true] at h
    obtain ⟨v, h1, h2⟩ := conB_ok d u h.1
    obtain ⟨vs, h3, h4⟩ := conL_ok ds us h.2
    exact ⟨v :: vs, .cons h1 h3, fun H φ => .cons (h2 H φ) (h4 H φ)⟩
end
end
def cstB (xs : List (Str × D)) (K : PySem.W.Frag) : Bool := xs.all fun p => match PySem.W.nsIn K mainGlobals p.1 with
  | some (some u) => conB K p.2 u
  | _ => false
def CstOk (mg : Str → Option Value) (K : PySem.W.Frag) (x : Str) (d : D) : Prop := ∃ u, mg x = some u ∧ conB K d u = true
theorem cst_of {xs : List (Str × D)} {K : PySem.W.Frag} {h : Heap} {mg : Str → Option Value} (X : K.In h) (G : h.Ns mainGlobals mg) (c : cstB xs K = true) {x : Str} {d : D} (hx : (x, d) ∈ xs) : CstOk mg K x d := by
  have q := List.all_eq_true.mp c (x, d) hx
  simp only at q
  split at q
  · rename_i u hu
    exact ⟨u, PySem.W.mg_of X G hu, q⟩
  · cases q
section
variable {X : Cx} {c : Cz} {W : WX} {a b d : Expr} {ea eb ed : Ev} {pos : Pos} {tg : Expr} {ra : EvA} {p : Pos}
theorem me_cst {x : Str} {d : D} (h : CstOk X.mg X.K x d) (hg : Gl X x := by rfl) (hd : (x == ("__debug__" : Str)) = false := by decide) : ME X c W (.Name x pos) (eC d) := fun s => by
  obtain ⟨u, hm, hc⟩ := h
  obtain ⟨v, hv, hr⟩ := conB_ok (c := c) d u (by rw [s.kk]; exact hc)
  refine PE.imp (pe_glob hg hm hv hd) fun σ H Q ⟨φ, ρ, S, re, rs, o⟩ => ?_
  exact o φ H v (.refl _ _) rs (hr H φ)
/-! range with a step above 0 -/
def stepN (i j k : Int) : Nat := if i < j then ((j - i - 1) / k + 1).toNat else 0
theorem rgC_of {i j k : Int} (hc : 0 < k) (hc2 : k < 1000) (ha : -(2 ^ 60) ≤ i) (ha' : i < 2 ^ 60) (hb : -(2 ^ 60) ≤ j) (hb' : j < 2 ^ 60) : RgC i j k (stepN i j k) := by
  have e : Builtin.Range.rangeSize i j k = (stepN i j k : Int) := by
    unfold Builtin.Range.rangeSize stepN
    rw [if_pos hc]
    by_cases h : i < j
    · rw [if_pos h, if_pos h]
      have : 0 ≤ (j - i - 1) / k := Int.ediv_nonneg (by omega) (by omega)
      omega
    · rw [if_neg h, if_neg h]
      rfl
  have b1 : (stepN i j k : Int) ≤ 2 ^ 61 := by
    unfold stepN
    by_cases h : i < j
    · rw [if_pos h]
      have h1 : 0 ≤ (j - i - 1) / k := Int.ediv_nonneg (by omega) (by omega)
      have h2 : (j - i - 1) / k ≤ j - i - 1 := Int.ediv_le_self _ (by omega)
      omega
    · rw [if_neg h]
      decide
  refine ⟨by omega, by omega, ?_, e⟩
  unfold Builtin.Range.small
  rw [e]
  simp only [Builtin.Range.rangeFitsLong, Bool.and_eq_true, Bool.or_eq_true, decide_eq_true_eq, beq_iff_eq, if_pos (show k > 0 from hc)]
  refine ⟨⟨⟨⟨⟨by omega, by omega⟩, by omega, by omega⟩, by omega, by omega⟩, by omega, by omega⟩, .inr ⟨by omega, by omega⟩⟩
def stepL (i k : Int) (n : Nat) : List D := (List.range n).map fun (m : Nat) => D.int (i + (m : Int) * k)
def rng3 (ds : List D) (S : Sto) : Res Src := match ds with
  | [.int i, .int j, .int k] => if (0 < k ∧ k < 1000) ∧ (-(2 ^ 60) ≤ i ∧ i < 2 ^ 60) ∧ -(2 ^ 60) ≤ j ∧ j < 2 ^ 60 then .ok ⟨stepL i k (stepN i j k), fun _ => True⟩ S else .stuck
  | _ => .stuck
theorem itc_ok {lo k : Int} {n : Nat} {H : Hp} {φ : List Addr} : ItOk c ⟨stepL lo k n, fun _ => True⟩ (Itc lo k n) H φ := by
  intro H2 φ2 S2 i e s _
  refine ⟨fun x hx => ?_, fun hl => by
    simp only [stepL, List.length_map, List.length_range] at hl
    exact hl⟩
  unfold stepL at hx
  rw [List.getElem?_map] at hx
  by_cases hi : i < n
  · rw [List.getElem?_range hi] at hx
    cases hx
    refine ⟨hi, fun v H3 ⟨e3, y⟩ => ?_⟩
    subst e3 y
    exact ⟨.refl _ _, s, by unfold RepV; rfl⟩
  · rw [List.getElem?_eq_none (by simpa using hi)] at hx
    cases hx
theorem mi_range3 (h : MA X c W [a, b, d] ra) (hm : X.mg "range" = none) (hg : Gl X "range" := by rfl) (hs : starEach [a, b, d] X.env = (false, eval a X.env) :: starEach [b, d] X.env := by rfl) (hpl : (backTo pos (starEach [b, d] X.env)).any (·.1) = false := by rfl) :
    MI X c W tg (.Call (.Name "range" p) [a, b, d] [] pos) (iRange rng3 ra) := fun s => by
  refine PI.imp (pi_range3 hg hm (h s) hs hpl) fun σ H R ⟨φ, ρ, S, re, rs, o⟩ => ?_
  refine ⟨φ, ρ, S, re, rs, Out.bind o fun x S1 φ1 H1 v e1 s1 r1 o1 => ?_⟩
  unfold rng3 at o1
  split at o1
  · rename_i i j k
    split at o1
    · rename_i hj
      unfold RepL at r1
      obtain ⟨v1, vr, rfl, r2, r3⟩ := r1
      unfold RepL at r3
      obtain ⟨v2, vr2, rfl, r4, r5⟩ := r3
      unfold RepL at r5
      obtain ⟨v3, vr3, rfl, r6, r7⟩ := r5
      unfold RepV at r2 r4 r6
      unfold RepL at r7
      subst r2 r4 r6 r7
      exact ⟨i, j, k, _, rfl, rgC_of hj.1.1 hj.1.2 hj.2.1.1 hj.2.1.2 hj.2.2.1 hj.2.2.2, o1 φ1 H1 _ (.refl _ _) s1 itc_ok⟩
    · exact o1.elim
  · exact o1.elim
end
/-! a call without arguments -/
def pm00 {α : Type} (_ _ : List α) : List α := []
theorem perm_00 : Perm 0 0 pm00 := ⟨fun _ _ _ _ => .nil, fun _ _ _ _ => .nil⟩
end MP
end
section
set_option Elab.async false
set_option linter.all false
set_option maxRecDepth 100000
set_option maxHeartbeats 1000000
/-! MPO: t[:0:-1] of a tuple too. -/
namespace MP
open PySem PySem.Spec PyProof.Rows L2
section
variable {prog : Program} {w : World} {A : Around} {E : Value → Shared → Prop} {s : Shared}
theorem adj_back (n : Nat) : Builtin.Slice.sliceAdjust none (some 0) (-1) ((n + 1 : Nat) : Int) = ((n : Int), 0) := by
  unfold Builtin.Slice.sliceAdjust
  simp only [show ((-1 : Int) < 0) from by omega, if_true, show ¬ ((0 : Int) < 0) from by omega, if_false]
  refine Prod.ext ?_ ?_
  · show ((n + 1 : Nat) : Int) - 1 = n
    omega
  · show min (0 : Int) (((n + 1 : Nat) : Int) - 1) = 0
    omega
theorem places_back (n : Nat) : Builtin.Slice.slicePlaces (n : Int) 0 (-1) = n := by
  unfold Builtin.Slice.slicePlaces
  rw [if_neg (by omega)]
  by_cases h : (n : Int) > 0
  · rw [if_pos h, show (-(-1) : Int) = 1 from rfl, Int.ediv_one]
    omega
  · rw [if_neg h]
    omega
theorem sliceApplied_back {sl : Addr} {vl vu vs : Value} {n : Nat} {Q : Int × Int × Nat → Shared → Prop} (hs : s.heap.IsSliceOf sl vl vu vs) (pl : IsPart vl none) (pu : IsPart vu (some 0)) (ps : IsPart vs (some (-1)))
    (h : Q ((n : Int), -1, n) s) : wpAny (model prog w) A (Builtin.Slice.sliceApplied (.ref sl) (pure ((n + 1 : Nat) : Int))) Q E s := by
  obtain ⟨os, hos, hcs, hds⟩ := id hs
  unfold Builtin.Slice.sliceApplied Builtin.Slice.sliceFields
  refine wpAny_bind (wpAny_bind (wpAny_field hos hds (x := vl) rfl (wpAny_bind (wpAny_field hos hds (x := vu) rfl (wpAny_bind (wpAny_field hos hds (x := vs) rfl (wpAny_pure ?_)))))))
  refine wpAny_bind (HT.slicePart_ ps ?_)
  show wpAny _ _ (if ((-1 : Int) == 0) = true then _ else _) _ _ s
  rw [if_neg (by decide)]
  refine wpAny_bind (HT.slicePart_ pl (wpAny_bind (HT.slicePart_ pu (wpAny_bind (wpAny_pure ?_)))))
  show wpAny _ _ (match Builtin.Slice.sliceAdjust none (some 0) (-1) ((n + 1 : Nat) : Int) with | (lo, hi) => pure (lo, (-1 : Int), Builtin.Slice.slicePlaces lo hi (-1))) _ _ s
  rw [adj_back n]
  show wpAny _ _ (pure ((n : Int), (-1 : Int), Builtin.Slice.slicePlaces (n : Int) 0 (-1))) _ _ s
  rw [places_back]
  exact wpAny_pure h
theorem pickT_back (its : List Value) (n : Nat) (hn : its.length = n + 1) : ((List.range n).filterMap fun (m : Nat) => its.toArray[((n : Int) + (m : Int) * -1).toNat]?).toArray = (its.drop 1).reverse.toArray := by
  congr 1
  have hf : ((List.range n).filterMap fun (m : Nat) => its.toArray[((n : Int) + (m : Int) * -1).toNat]?) = (List.range n).map fun m => its[n - m]?.getD .none := by
    refine fm_map fun k hk => ?_
    have hk' := List.mem_range.mp hk
    have e : ((n : Int) + (k : Int) * -1).toNat = n - k := by omega
    have : n - k < its.length := by omega
    rw [e]
    simp [List.getElem?_eq_getElem this]
  rw [hf]
  refine List.ext_getElem? fun i => ?_
  rw [List.getElem?_map]
  by_cases hi : i < n
  · rw [List.getElem?_range hi, List.getElem?_reverse (by simp; omega), List.getElem?_drop, List.length_drop]
    have e : 1 + (its.length - 1 - 1 - i) = n - i := by omega
    have : n - i < its.length := by omega
    rw [e]
    simp [List.getElem?_eq_getElem this]
  · rw [List.getElem?_eq_none (by simpa using hi), List.getElem?_eq_none (by simp; omega)]
    rfl
theorem getItem_tuple_back {t sl : Addr} {its : List Value} {vl vu vs : Value} {Q : Value → Shared → Prop} (ht : IsTup s.heap t its.toArray) (hs : s.heap.IsSliceOf sl vl vu vs) (pl : IsPart vl none) (pu : IsPart vu (some 0)) (ps : IsPart vs (some (-1)))
    (hne : its ≠ []) (h : Q (.ref s.heap.objs.size) { s with heap := s.heap.push { cls := .type "tuple", data := .seq (its.drop 1).reverse.toArray } })
    (hsz : its.length ≤ sizeLine) : wpAny (model prog w) A (getItem (.ref t) (.ref sl)) Q E s := by
  obtain ⟨n, hn⟩ : ∃ n, its.length = n + 1 := ⟨its.length - 1, by have := List.length_pos_iff.mpr hne; omega⟩
  have htake : sizeOk (.seq (its.drop 1).reverse.toArray) := by
    show (its.drop 1).reverse.toArray.size ≤ sizeLine
    rw [List.size_toArray, List.length_reverse, List.length_drop]
    omega
  obtain ⟨os, hos, hcs, hds⟩ := id hs
  have hTs : s.TypeIs (.ref sl) "slice" := ⟨os, hos, hcs⟩
  unfold getItem
  try with_reducible refine wpAny_holding ?_
  first | refine wpAny_bind (wpAny_pure ?_) | skip
  refine wpAny_bind (wpAny_sequenceKey ht.typeIs (by decide) ?_)
  refine wpAny_bind (wpAny_callSpecial?_slot (name := Str.ofString "__getitem__") ht.typeIs PyProof.Rows.slot_tuple_getitem
    (wpAny_call_entry PyProof.Rows.slot_tuple_getitem ht.typeIs entry_tuple_getitem ?_ (args_tuple_getitem _ _)))
  show wpAny _ _ (Builtin.Tuple.tupleItemsOf (.ref t) >>= _) _ _ s
  refine wpAny_bind (tupleItemsOf_ ht ?_)
  refine wpAny_bind (wpAny_typeOf hTs ?_)
  rw [if_pos (by decide)]
  have hsize : its.toArray.size = n + 1 := by rw [List.size_toArray, hn]
  rw [hsize]
  refine wpAny_bind (sliceApplied_back hs pl pu ps ?_)
  have hno : ¬ (((n : Int) == 0 && (-1 : Int) == 1 && n == n + 1) = true) := by
    intro q
    rw [Bool.and_eq_true, Bool.and_eq_true] at q
    exact absurd q.1.2 (by decide)
  show wpAny _ _ (if ((n : Int) == 0 && (-1 : Int) == 1 && n == n + 1) = true then _ else _) _ _ s
  rw [if_neg hno, pickT_back its n hn]
  first
    | exact wpAny_bind (m := Builtin.Tuple.tupleExact _) (wpAny_newObj_type (wpAny_pure ⟨_, rfl, wpAny_pure h⟩) htake)
    | exact wpAny_bind (m := Builtin.Tuple.tupleExact _) (wpAny_newObj_type (wpAny_bind (wpAny_pure (wpAny_pure ⟨_, rfl, wpAny_pure h⟩))) htake)
    | exact wpAny_bind (wpAny_bind (m := Builtin.Tuple.tupleExact _) (wpAny_newObj_type (wpAny_pure (wpAny_pure ⟨_, rfl, wpAny_pure h⟩)) htake))
    | exact wpAny_bind (wpAny_bind (m := Builtin.Tuple.tupleExact _) (wpAny_newObj_type (wpAny_pure ⟨_, rfl, wpAny_pure h⟩) htake))
end
section
variable {X : Cx} {c : Cz} {W : WX} {a : Expr} {ea : Ev} {pos : Pos}
def tBackA (K : PySem.W.Frag) (te : TE) : TE := fun σ H Q => te σ H fun x H1 => ∃ l us, x = .ref l ∧ ((SqL K H1 l us ∧ ∀ q, H1 q = none → Q (.ref q) (upd H1 q (.lst (us.drop 1).reverse))) ∨ (SqT K H1 l us ∧ us ≠ [] ∧ NewT Q H1 (us.drop 1).reverse))
theorem pe_backA {te : TE} {k k2 : Nat} {p0 p1 p2 p3 : Pos} (he : PE X a te) : PE X (.Subscript a (.Slice none (some (.Constant (.int 0) k2 p0)) (some (.UnaryOp .USub (.Constant (.int 1) k p1) p2)) p3) pos) (tBackA X.K te) := ⟨fun pins s σ H Q I h => by
  refine Subscript_ (thn (he.run pins s σ H _ I h) fun v s1 ⟨x, H1, I1, r1, l, us, ex, q⟩ => ?_)
  subst ex
  cases r1
  have step : PO X (some (.UnaryOp .USub (.Constant (.int 1) k p1) p2)) (tPart (tUn (rU fun i => .int (-i)) (tC (.int 1)))) := po_some (pe_un un_neg pe_int)
  have top : PO X (some (.Constant (.int 0) k2 p0)) (tPart (tC (.int 0))) := po_some pe_int
  refine wpAny_Slice (thn (po_none.run pins s1 σ H1 (fun o H2 => o = none ∧ H2 = H1) I1 ⟨rfl, rfl⟩) fun vl s2 ⟨lo, H2, I2, pl, el, e2⟩ => ?_)
  subst el e2
  refine thn (top.run pins s2 σ H2 (fun o H3 => o = some 0 ∧ H3 = H2) I2 ⟨0, rfl, rfl, rfl⟩) fun vu s3 ⟨u, H3, I3, pu, eu, e3⟩ => ?_
  subst eu e3
  refine thn (step.run pins s3 σ H3 (fun o H4 => o = some (-1) ∧ H4 = H3) I3 ⟨1, rfl, -1, rfl, rfl, rfl⟩) fun vs s4 ⟨o, H4, I4, ps, eo, e4⟩ => ?_
  subst eo e4
  have I5 : Inv X pins σ H4 { s4 with heap := s4.heap.push { cls := .type "slice", data := .fields #[vl, vu, vs] } } :=
    I4.kept (t' := s4.toks) fun b ob q => Heap.get?_push_of_some _ q
  rcases q with ⟨hx, q⟩ | ⟨hx, hne, q⟩
  · obtain ⟨its, r, ht, hz⟩ := I5.list hx
    have hlen := r.length
    show wpAny (model X.prog X.w) X.A (subscriptTail a (.Slice none (some (.Constant (.int 0) k2 p0)) (some (.UnaryOp .USub (.Constant (.int 1) k p1) p2)) p3) (.ref l) (.ref s4.heap.objs.size)) (EP X pins σ Q) X.xe
      { s4 with heap := s4.heap.push { cls := .type "slice", data := .fields #[vl, vu, vs] } }
    refine tail_any (ops := [.ref l, .ref s4.heap.objs.size]) ht.isList.typeIs (PySem.slot_list_getitem.lookup) ?_ (by with_unfolding_all rfl)
    refine wpAny_getItem_list_slice ht.isList (Heap.IsSliceOf.new _ vl vu vs) pl pu ps (by decide) ?_ (by rw [List.size_toArray]; omega)
    rw [pick_back]
    have hz2 : (us.drop 1).reverse.length ≤ sizeLine := by
      rw [List.length_reverse, List.length_drop]
      omega
    have rv : Vals (us.drop 1).reverse (its.drop 1).reverse := by
      have := r.drop 1
      exact this.reverse
    exact ⟨.ref _, _, I5.laid (t' := s4.toks) (o := .lst (us.drop 1).reverse) (fun b ob q => Heap.get?_push_of_some _ q) (Nat.le_refl _) ⟨hz2, _, 0, rv, Heap.get?_push_size _ rfl⟩, rfl, q _ (I5.hok.fresh (Nat.le_refl _))⟩
  · obtain ⟨its, r, ht, hz⟩ := I5.tuple hx
    have hlen := r.length
    show wpAny (model X.prog X.w) X.A (subscriptTail a (.Slice none (some (.Constant (.int 0) k2 p0)) (some (.UnaryOp .USub (.Constant (.int 1) k p1) p2)) p3) (.ref l) (.ref s4.heap.objs.size)) (EP X pins σ Q) X.xe
      { s4 with heap := s4.heap.push { cls := .type "slice", data := .fields #[vl, vu, vs] } }
    refine tail_any (ops := [.ref l, .ref s4.heap.objs.size]) ht.typeIs (PyProof.Rows.slot_tuple_getitem.lookup) ?_ (by with_unfolding_all rfl)
    refine getItem_tuple_back ht (Heap.IsSliceOf.new _ vl vu vs) pl pu ps (fun z => hne ?_) ?_ (by omega)
    · exact List.length_eq_zero_iff.mp (by rw [hlen, z]; rfl)
    · have hz2 : (us.drop 1).reverse.length ≤ sizeLine := by
        rw [List.length_reverse, List.length_drop]
        omega
      have rv : Vals (us.drop 1).reverse (its.drop 1).reverse := by
        have := r.drop 1
        exact this.reverse
      exact newN (t' := s4.toks) I5 hz2 rv q⟩
def dBackA (d : D) (S : Sto) : Option (D × Sto) := match d with
  | .lst l => (S[l]?).map fun xs => (.lst S.length, S ++ [(xs.drop 1).reverse])
  | .tup xs => if xs = [] then none else some (.tup (xs.drop 1).reverse, S)
  | _ => none
theorem me_backA {k k2 : Nat} {p0 p1 p2 p3 : Pos} (h : ME X c W a ea) : ME X c W (.Subscript a (.Slice none (some (.Constant (.int 0) k2 p0)) (some (.UnaryOp .USub (.Constant (.int 1) k p1) p2)) p3) pos) (eU dBackA ea) := fun s => by
  refine PE.imp (pe_backA (h s)) fun σ H Q ⟨φ, ρ, S, re, rs, o⟩ => ?_
  refine ⟨φ, ρ, S, re, rs, Out.bind o fun x S1 φ1 H1 v e1 s1 r1 o1 => ?_⟩
  replace o1 := OutO.of o1
  cases x <;> first
    | exact False.elim o1
    | skip
  · rename_i xs
    unfold RepV at r1
    obtain ⟨a', us, rfl, h1, h2⟩ := r1
    have o1 : OutO c H1 φ1 (RepV c) (if xs = [] then none else some (D.tup (xs.drop 1).reverse, S1)) Q := o1
    by_cases hn : xs = []
    · rw [if_pos hn] at o1
      exact o1.elim
    · rw [if_neg hn] at o1
      refine ⟨a', us, rfl, .inr ⟨?_, fun z => hn ?_, new_tup s1 (h2.drop 1).reverse o1⟩⟩
      · rw [← s.kk]
        exact h1.sq
      · have := h2.length
        rw [z] at this
        exact List.length_eq_zero_iff.mp this
  · rename_i l
    unfold RepV at r1
    obtain ⟨a', rfl, h1, kd1⟩ := r1
    have o1 : OutO c H1 φ1 (RepV c) ((S1[l]?).map fun xs => (D.lst S1.length, S1 ++ [(xs.drop 1).reverse])) Q := o1
    cases q0 : S1[l]? with
    | none => rw [q0] at o1; exact o1.elim
    | some xs =>
      rw [q0] at o1
      obtain ⟨a2, us, g1, g2, g3⟩ := s1.at_ l xs q0 h1 kd1
      rw [h1] at g1
      cases g1
      exact ⟨a', us, rfl, .inl ⟨SqL.of g2, new_list s1 (g3.drop 1).reverse o1⟩⟩
end
end MP
end
section
set_option Elab.async false
set_option linter.all false
set_option maxRecDepth 100000
set_option maxHeartbeats 1000000
/-! MPQ: sorted ints, pairs of ints by <=, a list without one of its ints, displays of dicts, lists of a dict's keys and values. -/
namespace MP
open PySem PySem.Spec PyProof.Rows L2
/-! sorted -/
def isortI (ns : List Int) : List Int := ns.mergeSort fun a b => decide (a ≤ b)
theorem isort_perm (ns : List Int) : (isortI ns).Perm ns := List.mergeSort_perm _ _
theorem isort_sorted (ns : List Int) : (isortI ns).Pairwise (· ≤ ·) := by
  have h := List.pairwise_mergeSort (le := fun a b : Int => decide (a ≤ b)) (fun a b c h1 h2 => by simp at *; omega) (fun a b => by simp; omega) ns
  exact h.imp fun h => by simpa using h
theorem sort_uniq : ∀ {l m : List Int}, l.Perm m → l.Pairwise (· ≤ ·) → m.Pairwise (· ≤ ·) → l = m
  | [], m, p, _, _ => (List.Perm.nil_eq p)
  | x :: l, [], p, _, _ => absurd p.length_eq (by simp)
  | x :: l, y :: m, p, h1, h2 => by
    have a := List.pairwise_cons.mp h1
    have b := List.pairwise_cons.mp h2
    have e : x = y := by
      have mx : x ∈ y :: m := p.mem_iff.mp (by simp)
      have my : y ∈ x :: l := p.mem_iff.mpr (by simp)
      have q1 : y ≤ x := by
        rcases List.mem_cons.mp mx with z | z
        · omega
        · exact b.1 x z
      have q2 : x ≤ y := by
        rcases List.mem_cons.mp my with z | z
        · omega
        · exact a.1 y z
      omega
    subst e
    rw [sort_uniq p.cons_inv a.2 b.2]
def dSorted : OpL := fun ds S => match ds with
  | [.lst l] => (S[l]?).bind fun xs => (intsOf xs).map fun is => (.lst S.length, S ++ [(isortI is).map D.int])
  | _ => none
section
variable {X : Cx} {c : Cz} {W : WX} {a b d : Expr} {ea eb ed : Ev} {pos : Pos} {es : List Expr} {ra : EvA} {x : Str} {p : Pos}
theorem ints_repQ {H : Hp} {φ : List Addr} : ∀ ns : List Int, RepL c H φ (ns.map D.int) (ns.map V.int)
  | [] => .nil
  | n :: ns => .cons rep_int (ints_repQ ns)
theorem cd_sorted : CallD X c (.builtin "sorted") dSorted := fun kk => by
  refine CallR.imp cr_sortedI fun vs H Q ⟨φ, S, ds, rs, r, o⟩ => ?_
  unfold dSorted at o
  split at o
  · rename_i l
    obtain ⟨v, rfl, rv⟩ := r.one
    cases q : S[l]? with
    | none => rw [q] at o; exact o.elim
    | some xs =>
      rw [q, Option.bind_some] at o
      cases q2 : intsOf xs with
      | none => rw [q2] at o; exact o.elim
      | some is =>
        rw [q2] at o
        obtain ⟨q', us, rfl, k0, k1, k2⟩ := lst_at rs rv q
        refine ⟨q', is, rfl, SqL.of (by rw [k1, intsOf_rep k2 q2]), fun ns' p hp hs hn => ?_⟩
        have e := sort_uniq (hp.trans (isort_perm is).symm) hs (isort_sorted is)
        subst e
        exact new_list rs (ints_repQ _) o p hn
  · exact o.elim
/-! pairs of ints, by <= -/
def dLeX : Op2 := fun d e S => match d, e with
  | .tup [.int i, .int j], .tup [.int k, .int l] => some (.bl (if i = k then decide (j ≤ l) else decide (i ≤ k)), S)
  | _, _ => dLe d e S
theorem rep_pair {H : Hp} {φ : List Addr} {i j : Int} {v : V} (r : RepV c H φ (.tup [.int i, .int j]) v) : ∃ a, v = .ref a ∧ SqT c.K H a ([i, j].map V.int) := by
  unfold RepV at r
  obtain ⟨a, xs, rfl, h, r⟩ := r
  have e : xs = [i, j].map V.int := intsOf_rep (is := [i, j]) r rfl
  subst e
  exact ⟨a, rfl, h.sq⟩
theorem od_leX (hu : X.A.units + 64 < cLine) : OpD X c (compareOp .LtE) dLeX := fun kk => by
  refine OpR.imp (OpR.or (op_leT (X := X) (by omega)) (od_le (X := X) (c := c) kk)) fun x y H Q ⟨φ, S, d, e, rs, r1, r2, o⟩ => ?_
  unfold dLeX at o
  split at o
  · rename_i i j k l
    obtain ⟨a1, rfl, s1⟩ := rep_pair r1
    obtain ⟨a2, rfl, s2⟩ := rep_pair r2
    refine .inl ⟨a1, a2, _, _, rfl, rfl, kk ▸ s1, kk ▸ s2, ?_⟩
    have key : Ob.lexAt (fun n => decide (([i, j] : List Int).getD n 0 = ([k, l] : List Int).getD n 0)) (fun n => decide (([i, j] : List Int).getD n 0 ≤ ([k, l] : List Int).getD n 0)) (decide (([i, j] : List Int).length ≤ ([k, l] : List Int).length)) 0 (min ([i, j] : List Int).length ([k, l] : List Int).length) = (if i = k then decide (j ≤ l) else decide (i ≤ k)) := by
      show Ob.lexAt _ _ _ 0 2 = _
      rw [Ob.lexAt_succ, Ob.lexAt_succ, Ob.lexAt_zero]
      simp only [List.getD_cons_zero, List.getD_cons_succ]
      by_cases c1 : i = k
      · by_cases c2 : j = l
        · simp [c1, c2]
        · simp [c1, c2]
      · simp [c1]
    rw [key]
    exact o φ H _ (.refl _ _) rs rep_bl
  · exact .inr ⟨φ, S, d, e, rs, r1, r2, o⟩
/-! xs.remove(k) -/
def eRem (eo ea : Ev) : Ev := fun ρ S => (eo ρ S).bind fun d S1 => match d with
  | .lst l => (ea ρ S1).bind fun y S2 => lift (match y with
    | .int k => (S2[l]?).bind fun xs => (intsOf xs).bind fun is => if k ∈ is then some (.non, S2.set l ((is.erase k).map D.int)) else none
    | _ => none)
  | _ => .stuck
theorem me_rem {o : Expr} {eo : Ev} {apos : Pos} (ho : ME X c W o eo) (ha : ME X c W a ea) (hc : X.calm = true := by rfl) (hbase : attributeBase o "remove" X.env (eval o X.env) = eval o X.env := by rfl)
    (hfew : ((backTo pos (starEach [a] X.env)).all (fun x => !x.1) && (backToKw pos (keywordEach [] X.env)).all (fun x => x.1.isSome) && decide (([a] : List Expr).length + ([] : List Keyword).length + (if ([] : List Keyword).isEmpty then 0 else 1) < 30)) = true := by rfl)
    (hline : (apos.endLine == pos.line) = true := by rfl) (hs : starEach [a] X.env = (false, eval a X.env) :: starEach [] X.env := by rfl) (hpl : (backTo pos (starEach [] X.env)).any (·.1) = false := by rfl) :
    ME X c W (.Call (.Attribute o "remove" apos) [a] [] pos) (eRem eo ea) := fun s => by
  refine PE.imp (pe_remX hc s.tk (ho s) (ha s) hbase hfew hline hs hpl) fun σ H Q ⟨φ, ρ, S, re, rs, o⟩ => ?_
  refine ⟨φ, ρ, S, re, rs, Out.bind o fun d S1 φ1 H1 v e1 s1 r1 o1 => ?_⟩
  cases d <;> first
    | exact False.elim o1
    | skip
  rename_i l
  have r1' := r1
  unfold RepV at r1'
  obtain ⟨q, rfl, h1, kd1⟩ := r1'
  obtain ⟨vs, h2⟩ := kind_lst kd1
  refine ⟨.inl ⟨rfl, _, SqL.of h2⟩, φ1, ρ, S1, re.ext rs e1, s1, Out.bind o1 fun y S2 φ2 H2 w e2 s2 r2 o2 => ?_⟩
  replace o2 := OutO.of o2
  have r3 := RepV.ext s1.ls e2 _ _ r1
  cases y <;> first
    | exact False.elim o2
    | skip
  rename_i k
  unfold RepV at r2
  subst r2
  cases q0 : S2[l]? with
  | none => simp only [q0] at o2; exact o2.elim
  | some xs =>
    cases q2 : intsOf xs with
    | none => simp only [q0, Option.bind_some, q2] at o2; exact o2.elim
    | some is =>
      simp only [q0, Option.bind_some, q2] at o2
      obtain ⟨q', us, eq', k0, k1, k2⟩ := lst_at s2 r3 q0
      cases eq'
      by_cases hk : k ∈ is
      · rw [if_pos hk] at o2
        refine ⟨q, is, k, rfl, rfl, by rw [k1, intsOf_rep k2 q2], fun _ => ?_, fun z => absurd hk z⟩
        exact put_list s2 k0 (by rw [k1]; rfl) (ints_repQ _) rep_non o2
      · rw [if_neg hk] at o2
        exact o2.elim
end
end MP
end
section
set_option Elab.async false
set_option linter.all false
set_option maxRecDepth 100000
set_option maxHeartbeats 1000000
/-! MPR: a dict's keys as a list, its values as a list, displays of dicts. -/
namespace MP
open PySem PySem.Spec PyProof.Rows L2
section
variable {X : Cx} {c : Cz} {W : WX} {a b d : Expr} {ea eb ed : Ev} {pos : Pos} {es : List Expr} {ra : EvA} {x : Str} {p : Pos}
theorem rep_keyV {k : Key} {H : Hp} {φ : List Addr} : RepV c H φ (keyD k) (kV k) := by
  cases k <;> (unfold keyD RepV; rfl)
theorem rep_keysL {κ : Type} {f : κ → D} {g : κ → V} {H : Hp} {φ : List Addr} (h : ∀ k, RepV c H φ (f k) (g k)) : ∀ ks : List κ, RepL c H φ (ks.map f) (ks.map g)
  | [] => .nil
  | k :: ks => .cons (h k) (rep_keysL h ks)
/-! list(d) -/
def dListOfD : OpL := fun ds S => match ds with
  | [.dct l] => ((S[l]?).bind dkR).map fun m => (.lst S.length, S ++ [m.map fun p => keyD p.1])
  | _ => dListOf ds S
theorem cd_listD (hc : X.calm = true) : CallD X c (.type "list") dListOfD := fun kk => by
  refine CallR.imp (CallR.or (call_listD hc) (cd_list kk)) fun vs H Q ⟨φ, S, ds, rs, r, o⟩ => ?_
  unfold dListOfD at o
  split at o
  · rename_i l
    obtain ⟨v, rfl, rv⟩ := r.one
    unfold RepV at rv
    obtain ⟨a, rfl, ha, hk⟩ := rv
    cases q0 : S[l]? with
    | none => rw [q0] at o; exact o.elim
    | some xs =>
      obtain ⟨m, kvs, rfl, e1, rm⟩ := rs.dk q0 ha hk fun z => by rw [q0, Option.bind_some, z] at o; exact o.elim
      rw [q0, Option.bind_some, dkR_W, Option.map_some] at o
      refine .inl ⟨a, kvs, rfl, .inl e1, new_list rs ?_ o⟩
      have e := rm.keys
      have e1 : (m.map fun p => keyD p.1) = (kvs.map (·.1)).map keyD := by rw [← e, List.map_map]; rfl
      have e2 : (kvs.map fun p => kV p.1) = (kvs.map (·.1)).map kV := by rw [List.map_map]; rfl
      rw [e1, e2]
      exact rep_keysL (fun k => rep_keyV) _
  · exact .inr ⟨φ, S, ds, rs, r, o⟩
/-! list(d.values()) -/
theorem kv_vals {κ : Type} [DecidableEq κ] {kvs : List (κ × V)} {vs : List (κ × Value)} (r : KV kvs vs) {acc : Array Value} (h : ItemsOf (fun i v => ∃ k, vs[i]? = some (k, v)) acc vs.length) : Vals (kvs.map (·.2)) acc.toList := by
  refine vals_of_at (by have e1 := h.1; have e2 := L2.KV.length r; rw [List.length_map, e2, ← e1]; simp) fun j x w h1 h2 => ?_
  obtain ⟨k, hk⟩ := h.2 j w (by rw [← Array.getElem?_toList]; exact h2)
  obtain ⟨y, e1, e2⟩ := L2.KV.at' r hk
  rw [List.getElem?_map, e1] at h1
  cases h1
  exact e2
def tListVals (td : TE) : TE := fun σ H Q => td σ H fun x H1 => ∃ a kvs, x = V.ref a ∧ H1 a = some (.dK kvs) ∧ ∀ p, H1 p = none → Q (.ref p) (upd H1 p (.lst (kvs.map (·.2))))
theorem pe_listVals {o : Expr} {p pos apos mpos : Pos} {td : TE} (hc : X.calm = true) (hg : Gl X "list") (hm : X.mg "list" = none) (hd : PE X o td) (hbase : attributeBase o "values" X.env (eval o X.env) = eval o X.env := by rfl) (hline : (apos.endLine == mpos.line) = true := by rfl)
    (na : starEach [Expr.Call (.Attribute o "values" apos) [] [] mpos] X.env = (false, eval (Expr.Call (.Attribute o "values" apos) [] [] mpos) X.env) :: starEach [] X.env := by rfl) :
    PE X (.Call (.Name "list" p) [.Call (.Attribute o "values" apos) [] [] mpos] [] pos) (tListVals td) := by
  refine ⟨fun pins s σ H Q I h => ?_⟩
  refine Call_ (ld_blt I hg hm boot_list (PyProof.Rows.callWith_type1 (args_cons (wpAny_Call_method0_late hbase hline (thn (hd.run pins s σ H _ I h) fun v s1 ⟨x, H1, I1, r1, a, kvs, ex, ha, q⟩ => ?_)) na) na))
  subst ex
  obtain rfl : v = Value.ref a := r1
  obtain ⟨z, hsys, vs, rel, dof⟩ := dk_of I1.hok ha
  obtain ⟨ep, dat⟩ := dof.dictAt
  have dat' := dat
  obtain ⟨ob, es, ho, ex, hdat, hko, hpr, hnd⟩ := dat'
  refine ⟨"dict", "dict.values", F.plainAttrs_dict, F.slot_dict_values, F.type_dict_values, ⟨ob, ho, ex.1⟩, fun b e => ?_, Calls.callWith_builtin rfl (PySem.evalArgs_none ?_)⟩
  · cases e
    exact ⟨ob, ho, ex.2.1⟩
  refine call_meetsIn F.slot_dict_values ⟨ob, ho, ex.1⟩ F.entry_dict_values (F.args_dict_values_1 _) (meets_dict_values (mixKind X.prog X.w) a hsys) ⟨⟨vs, dof⟩, ?_⟩
  have k1 : ∀ b u, s1.heap.get? b = some u → (s1.heap.push { cls := .type "dict_values", data := .fields #[.ref a] }).get? b = some u := fun b u e => Heap.get?_push_of_some _ e
  have dat1 : (s1.heap.push { cls := .type "dict_values", data := .fields #[.ref a] }).DictAt (mixKind X.prog X.w) a vs ep := dat.keep k1
  refine args_nil ?_
  refine PySem.W.kdl_call (PySem.W.kdl_values (knd := mixKind X.prog X.w) (r := s1.heap.objs.size) (d := a) (kvs := vs) (ep := ep)) (I1.ok.hd hc) ⟨⟨_, Heap.get?_push_size _ rfl, rfl, rfl⟩, dat1⟩ (by rw [← rel.length]; exact z) fun h' tk acc c' hk hD hacc => ?_
  have hsz : (s1.heap.push { cls := .type "dict_values", data := .fields #[.ref a] }).objs.size = s1.heap.objs.size + 1 := Heap.size_push _ _
  have le : s1.heap.objs.size ≤ (s1.heap.push { cls := .type "dict_values", data := .fields #[.ref a] }).objs.size := by rw [hsz]; exact Nat.le_succ _
  refine ⟨.ref _, upd H1 (s1.heap.push { cls := .type "dict_values", data := .fields #[.ref a] }).objs.size (.lst (kvs.map (·.2))), I1.laid (t' := tk) (fun b u e => hk b u (k1 b u e)) le (show ObjOk X.prog X.w _ _ _ (.lst (kvs.map (·.2))) from ⟨?_, acc.toList, c', kv_vals rel hacc, ?_⟩), rfl, q _ (I1.hok.fresh le)⟩
  · rw [List.length_map]; exact z
  · rw [Array.toArray_toList]; exact hD
def dListVals (d : D) (S : Sto) : Option (D × Sto) := match d with
  | .dct l => ((S[l]?).bind dkR).map fun m => (.lst S.length, S ++ [m.map (·.2)])
  | _ => none
theorem me_listVals {o : Expr} {eo : Ev} {p pos apos mpos : Pos} (h : ME X c W o eo) (hm : X.mg "list" = none) (hg : Gl X "list" := by rfl) (hc : X.calm = true := by rfl) (hbase : attributeBase o "values" X.env (eval o X.env) = eval o X.env := by rfl) (hline : (apos.endLine == mpos.line) = true := by rfl)
    (na : starEach [Expr.Call (.Attribute o "values" apos) [] [] mpos] X.env = (false, eval (Expr.Call (.Attribute o "values" apos) [] [] mpos) X.env) :: starEach [] X.env := by rfl) :
    ME X c W (.Call (.Name "list" p) [.Call (.Attribute o "values" apos) [] [] mpos] [] pos) (eU dListVals eo) := fun s => by
  refine PE.imp (pe_listVals hc hg hm (h s) hbase hline na) fun σ H Q ⟨φ, ρ, S, re, rs, o⟩ => ?_
  refine ⟨φ, ρ, S, re, rs, Out.bind o fun x S1 φ1 H1 v e1 s1 r1 o1 => ?_⟩
  replace o1 := OutO.of o1
  cases x <;> first
    | exact False.elim o1
    | skip
  rename_i l
  unfold RepV at r1
  obtain ⟨a, rfl, ha, hk⟩ := r1
  unfold dListVals at o1
  simp only [] at o1
  cases q0 : S1[l]? with
  | none => rw [q0] at o1; exact o1.elim
  | some xs =>
    obtain ⟨m, kvs, rfl, e1, rm⟩ := s1.dk q0 ha hk fun z => by rw [q0, Option.bind_some, z] at o1; exact o1.elim
    rw [q0, Option.bind_some, dkR_W, Option.map_some] at o1
    exact ⟨a, kvs, rfl, e1, new_list s1 rm.vals o1⟩
/-! displays -/
def isNilO : Option (List D) → Bool
  | some [] => true
  | _ => false
theorem isNilO_eq {o : Option (List D)} (h : isNilO o = true) : o = some [] := by
  unfold isNilO at h
  split at h
  · rfl
  · cases h
def ePairs : List (Ev × Ev) → Env → Sto → Res (List (D × D))
  | [], _, S => .ok [] S
  | q :: r, ρ, S => (q.1 ρ S).bind fun x S1 => (q.2 ρ S1).bind fun y S2 => (ePairs r ρ S2).bind fun ps S3 => .ok ((x, y) :: ps) S3
def prsOf : List (D × D) → Option (List (Key × D))
  | [] => some []
  | q :: r => (keyOf q.1).bind fun k => (prsOf r).map ((k, q.2) :: ·)
def mergeD (m more : List (Key × D)) : List (Key × D) := more.foldl (fun acc q => putD acc q.1 q.2) m
def eDisp (qs : List (Ev × Ev)) : Ev := fun ρ S => (ePairs qs ρ (S ++ [[]])).bind fun ps S2 => lift ((prsOf ps).bind fun m => if ps.length ≤ 15 ∧ isNilO S2[S.length]? = true then some (.dct S.length, S2.set S.length (dkW (mergeD [] m))) else none)
def RepP (c : Cz) (H : Hp) (φ : List Addr) (ps : List (D × D)) (qs : List (V × V)) : Prop := RepL c H φ (ps.map (·.1)) (qs.map (·.1)) ∧ RepL c H φ (ps.map (·.2)) (qs.map (·.2)) ∧ ps.length = qs.length
def MPs (X : Cx) (c : Cz) (W : WX) (pos : Pos) (ks : List (Option Expr)) (vs : List Expr) (qs : List (Ev × Ev)) : Prop := Sh X c W → PPs X pos ks vs (qs.map fun q => (TEm c W q.1, TEm c W q.2))
theorem mps_nil : MPs X c W pos [] [] [] := fun _ => pps_nil
theorem mps_cons {k v : Expr} {ks : List (Option Expr)} {vs : List Expr} {ek ev : Ev} {qs : List (Ev × Ev)} (hk : ME X c W k ek) (hv : ME X c W v ev) (hr : MPs X c W pos ks vs qs) : MPs X c W pos (some k :: ks) (v :: vs) ((ek, ev) :: qs) := fun s => pps_cons (hk s) (hv s) (hr s)
theorem tPairs_of : ∀ (qs : List (Ev × Ev)) (σ : L2.St) (H : Hp) (Q : List (V × V) → Hp → Prop) (φ : List Addr) (ρ : Env) (S : Sto), RepE c H φ ρ σ → RepS c H φ S → Out c H φ (RepP c) (ePairs qs ρ S) Q (fun cls d H' => W cls d σ H') → tPairs (qs.map fun q => (TEm c W q.1, TEm c W q.2)) σ H Q
  | [], σ, H, Q, φ, ρ, S, re, rs, o => o φ H [] (.refl _ _) rs ⟨.nil, .nil, rfl⟩
  | q :: qs, σ, H, Q, φ, ρ, S, re, rs, o => by
    refine ⟨φ, ρ, S, re, rs, Out.bind (rel := RepV c) o fun x S1 φ1 H1 v e1 s1 r1 o1 => ?_⟩
    refine ⟨φ1, ρ, S1, re.ext rs e1, s1, Out.bind (rel := RepV c) o1 fun y S2 φ2 H2 w e2 s2 r2 o2 => ?_⟩
    refine tPairs_of qs σ H2 _ φ2 ρ S2 ((re.ext rs e1).ext s1 e2) s2 (Out.bind o2 fun ps S3 φ3 H3 us e3 s3 r3 o3 => ?_)
    refine o3 φ3 H3 _ (.refl _ _) s3 ⟨?_, ?_, ?_⟩
    · exact .cons (RepV.ext s2.ls e3 _ _ (RepV.ext s1.ls e2 _ _ r1)) r3.1
    · exact .cons (RepV.ext s2.ls e3 _ _ r2) r3.2.1
    · simp [r3.2.2]
theorem prs_rep {H : Hp} {φ : List Addr} : ∀ {ps : List (D × D)} {qs : List (V × V)} {m : List (Key × D)}, RepP c H φ ps qs → prsOf ps = some m → ∃ kvs : List (Key × V), qs = kvs.map (fun kv => (kV kv.1, kv.2)) ∧ RepM c H φ m kvs ∧ kvs.length = ps.length
  | [], [], m, r, e => by cases e; exact ⟨[], rfl, by unfold RepM; rfl, rfl⟩
  | [], _ :: _, m, r, e => by have := r.2.2; simp at this
  | _ :: _, [], m, r, e => by have := r.2.2; simp at this
  | p :: ps, q :: qs, m, r, e => by
    obtain ⟨r1, r2, r3⟩ := r
    unfold prsOf at e
    cases k0 : keyOf p.1 with
    | none => rw [k0] at e; cases e
    | some k =>
      cases m0 : prsOf ps with
      | none => rw [k0, m0] at e; cases e
      | some m' =>
        rw [k0, m0] at e
        cases e
        rw [List.map_cons, List.map_cons] at r1 r2
        unfold RepL at r1 r2
        obtain ⟨v, vr, e1, a1, b1⟩ := r1
        obtain ⟨w, wr, e2, a2, b2⟩ := r2
        cases e1
        cases e2
        obtain ⟨kvs, h1, h2, h3⟩ := prs_rep (ps := ps) (qs := qs) ⟨b1, b2, by simpa using r3⟩ m0
        rw [keyOf_eq k0] at a1
        have := rep_keyD a1
        refine ⟨(k, q.2) :: kvs, ?_, ?_, by simp [h3]⟩
        · rw [List.map_cons, ← h1, ← this]
        · unfold RepM
          exact ⟨_, _, rfl, a2, h2⟩
theorem RepM.merge {H : Hp} {φ : List Addr} : ∀ {more : List (Key × D)} {mv : List (Key × V)} {m : List (Key × D)} {kvs : List (Key × V)}, RepM c H φ more mv → RepM c H φ m kvs → RepM c H φ (mergeD m more) (mergeK kvs mv)
  | [], mv, m, kvs, h, q => by
    unfold RepM at h
    subst h
    exact q
  | p :: more, mv, m, kvs, h, q => by
    unfold RepM at h
    obtain ⟨v, kr, rfl, h1, h2⟩ := h
    exact h2.merge (q.put p.1 h1)
theorem me_disp {ks : List (Option Expr)} {vs : List Expr} {qs : List (Ev × Ev)} (h : MPs X c W pos ks vs qs) (hall : ks.all (·.isSome) = true := by rfl) (hl : ks.length = vs.length := by rfl) (h0 : ks ≠ [] := by simp) (h15 : ks.length ≤ 15 := by decide) : ME X c W (.Dict ks vs pos) (eDisp qs) := fun s => by
  refine PE.imp (pe_disp (h s) hall hl h0 h15) fun σ H Q ⟨φ, ρ, S, re, rs, o⟩ => ?_
  intro p hp
  obtain ⟨s2, e2⟩ := rs.pushC (o := .dK []) (xs := []) hp fun _ => cell_dk (m := []) (kvs := []) upd_same (by unfold RepM; rfl)
  have hat : (φ ++ [p])[S.length]? = some p := by rw [← rs.len, List.getElem?_append_right (Nat.le_refl _)]; simp
  refine tPairs_of qs σ _ _ _ ρ _ (re.ext rs e2) s2 ?_
  have o' : Out c H φ (RepV c) ((ePairs qs ρ (S ++ [[]])).bind fun ps S2 => lift ((prsOf ps).bind fun m => if ps.length ≤ 15 ∧ isNilO S2[S.length]? = true then some (D.dct S.length, S2.set S.length (dkW (mergeD [] m))) else none)) Q _ := o
  have o2 : Out c (upd H p (.dK [])) (φ ++ [p]) (RepV c) ((ePairs qs ρ (S ++ [[]])).bind fun ps S2 => lift ((prsOf ps).bind fun m => if ps.length ≤ 15 ∧ isNilO S2[S.length]? = true then some (D.dct S.length, S2.set S.length (dkW (mergeD [] m))) else none)) Q (fun cls d H' => W cls d σ H') := by
    revert o'
    cases hR : ((ePairs qs ρ (S ++ [[]])).bind fun ps S2 => lift ((prsOf ps).bind fun m => if ps.length ≤ 15 ∧ isNilO S2[S.length]? = true then some (D.dct S.length, S2.set S.length (dkW (mergeD [] m))) else none)) with
    | ok d S3 => exact fun o' φ' H' y e s r => o' φ' H' y (e2.trans e) s r
    | exc n ns ds S3 => exact fun o' φ' H' cls dx vs e s h1 h2 h3 h4 => o' φ' H' cls dx vs (e2.trans e) s h1 h2 h3 h4
    | stuck => exact fun o' => o'
  refine Out.bind o2 fun ps S2 φ2 H2 us e3 s3 r3 o3 => ?_
  replace o3 := OutO.of o3
  cases m0 : prsOf ps with
  | none => rw [m0] at o3; exact o3.elim
  | some m =>
    rw [m0, Option.bind_some] at o3
    by_cases hc : ps.length ≤ 15 ∧ isNilO S2[S.length]? = true
    · rw [if_pos hc] at o3
      have ha := pre_get e3.pre hat
      have hk : kindO (H2 p) = 2 := (e3.kind p (by simp)).trans (by rw [upd_same]; rfl)
      obtain ⟨m1, kv1, em, eh, rm⟩ := s3.dk (isNilO_eq hc.2) ha hk (by simp [dkR, entR])
      have em1 : m1 = [] := by
        cases m1 with
        | nil => rfl
        | cons q r => simp [dkW, entW] at em
      subst em1
      unfold RepM at rm
      subst rm
      obtain ⟨kvs, h1, h2, h3⟩ := prs_rep r3 m0
      refine ⟨eh, kvs, h1, by omega, ?_⟩
      have hm := h2.merge (m := []) (kvs := []) (by unfold RepM; rfl)
      obtain ⟨s4, e4⟩ := s3.writeC (o := .dK (mergeK [] kvs)) (xs := dkW (mergeD [] m)) ha (by rw [eh]; rfl) (fun _ _ z => by rw [eh] at z; cases z) fun e4 => cell_dk upd_same (RepM.ext s3.ls e4 hm)
      refine o3 φ2 _ _ e4 s4 ?_
      unfold RepV
      exact ⟨p, rfl, ha, by rw [upd_same]; rfl⟩
    · rw [if_neg hc] at o3
      exact o3.elim
end
end MP
end
section
set_option Elab.async false
set_option linter.all false
set_option maxRecDepth 100000
set_option maxHeartbeats 1000000
/-! MPS: loops over dicts (which stand locked meanwhile). -/
namespace MP
open PySem PySem.Spec PyProof.Rows L2
section
variable {c : Cz} {H H' : Hp} {φ φ' : List Addr} {S : Sto} {W : WX}
theorem RepE.apart {p : Addr} {o o' : HO} {ρ : Env} {σ : St} (r : RepE c H φ ρ σ) (hp : H p = some o) (h0 : kindO (some o) ≠ 0) (he : kindO (some o') = kindO (some o)) : RepE c (upd H p o') φ ρ σ :=
  ⟨r.1, fun i d e => by
    obtain ⟨v, h1, h2⟩ := r.2 i d e
    exact ⟨v, h1, RepV.apart hp h0 he _ _ h2⟩⟩
/-- locked -/
theorem RepS.lock (r : RepS c H φ S) {l : Nat} {a : Addr} {m : List (Key × D)} {kvs : List (Key × V)} (od : Obj) (ha : φ[l]? = some a) (hp : H a = some (.dK kvs)) (rm : RepM c H φ m kvs) :
    RepS c (upd H a (.frz od (.dK kvs))) φ (S.set l (lkd (dkW m))) ∧ Ext H φ (upd H a (.frz od (.dK kvs))) φ :=
  r.writeC ha (by rw [hp]; rfl) (fun _ _ z => by rw [hp] at z; cases z) fun e => cell_lk upd_same (RepM.ext r.ls e rm)
/-- and freed again -/
theorem RepS.unlock (r : RepS c H φ S) {l : Nat} {a : Addr} {od : Obj} {m : List (Key × D)} {kvs : List (Key × V)} (ha : φ[l]? = some a) (hp : H a = some (.frz od (.dK kvs))) (hl : S[l]? = some (lkd (dkW m))) :
    RepS c (upd H a (.dK kvs)) φ (S.set l (dkW m)) := by
  have k0 : kindO (some (.frz od (.dK kvs))) ≠ 0 := by intro z; cases z
  have ke : kindO (some (.dK kvs)) = kindO (some (.frz od (.dK kvs))) := rfl
  refine ⟨r.nd, by rw [List.length_set]; exact r.len, fun k ys h => ?_⟩
  by_cases hlk : l = k
  · subst hlk
    have lt : l < S.length := (List.getElem?_eq_some_iff.mp hl).1
    rw [List.getElem?_set_self lt] at h
    cases h
    refine ⟨a, ha, ?_⟩
    rcases r.dk2 hl ha (by rw [hp]; rfl) with ⟨m', kvs', e, e1, _⟩ | ⟨q, m', kvs', e, e1, rm⟩
    · rw [hp] at e1
      cases e1
    · rw [hp] at e1
      cases e1
      have em : m = m' := by
        have := congrArg dkRr e
        rw [dkRr_lk, dkRr_lk] at this
        exact Option.some.inj this
      subst em
      exact cell_dk upd_same (rm.apart hp k0 ke)
  · rw [List.getElem?_set_ne hlk] at h
    obtain ⟨b, h1, h2⟩ := r.cell k ys h
    have nb : b ≠ a := fun q => hlk (by subst q; exact RepS.write.nodup_ix' r.nd ha h1)
    have hb : upd H a (.dK kvs) b = H b := upd_ne nb
    refine ⟨b, h1, ?_⟩
    rcases h2 with ⟨vs, h2, h3⟩ | ⟨kvs, ds, h2, h3, h4⟩ | ⟨kvs, ds, h2, h3, h4⟩ | ⟨q, kvs, ds, h2, h3, h4⟩
    · exact .inl ⟨vs, hb.trans h2, RepL.apart hp k0 ke _ _ h3⟩
    · exact .inr (.inl ⟨kvs, ds, hb.trans h2, h3, RepL.apart hp k0 ke _ _ h4⟩)
    · exact .inr (.inr (.inl ⟨kvs, ds, hb.trans h2, h3, RepL.apart hp k0 ke _ _ h4⟩))
    · exact .inr (.inr (.inr ⟨q, kvs, ds, hb.trans h2, h3, RepL.apart hp k0 ke _ _ h4⟩))
/-- a heap behind a locked one, freed -/
theorem Ext.unlock {a : Addr} {od : Obj} {kvs : List (Key × V)} (ma : a ∈ φ) (hp : H a = some (.dK kvs)) (e : Ext (upd H a (.frz od (.dK kvs))) φ H' φ') : Ext H φ (upd H' a (.dK kvs)) φ' := by
  refine ⟨e.pre, fun b o h n => ?_, fun b h n => ?_, fun b h => ?_, fun b q u h => ?_⟩
  · have nb : b ≠ a := fun q => n (q ▸ ma)
    rw [upd_ne nb]
    exact e.keep b o (by rw [upd_ne nb]; exact h) n
  · have nb : b ≠ a := fun q => n (q ▸ ma)
    have := e.new b h n
    rwa [upd_ne nb] at this
  · by_cases nb : b = a
    · rw [nb, upd_same, hp]
    · rw [upd_ne nb]
      have := e.kind b h
      rwa [upd_ne nb] at this
  · have nb : b ≠ a := fun z => by rw [z, hp] at h; cases h
    rw [upd_ne nb]
    exact e.lock b q u (by rw [upd_ne nb]; exact h)
open Classical in
noncomputable def unlS (l : Nat) (m : List (Key × D)) (S : Sto) (k : Sto → Flow) : Flow := if S[l]? = some (lkd (dkW m)) then k (S.set l (dkW m)) else .stuck
noncomputable def unlF (l : Nat) (m : List (Key × D)) (f : Flow) : Flow := match f with
  | .next ρ S => unlS l m S fun S => .next ρ S
  | .brk ρ S => unlS l m S fun S => .brk ρ S
  | .cont ρ S => unlS l m S fun S => .cont ρ S
  | .ret d S => unlS l m S fun S => .ret d S
  | .exc .. => .stuck
  | .stuck => .stuck
theorem unlS_out {l : Nat} {m : List (Key × D)} {k : Sto → Flow} {E : Ends} (o : OutF c W H φ (unlS l m S k) E) : S[l]? = some (lkd (dkW m)) ∧ OutF c W H φ (k (S.set l (dkW m))) E := by
  unfold unlS at o
  split at o
  · exact ⟨by assumption, o⟩
  · exact o.elim
/-- the ends of what runs locked -/
def lockEnds (E : Ends) (d : Addr) (od : Obj) (u : HO) : Ends := ⟨fun σ' H' => H' d = some (.frz od u) ∧ E.nx σ' (upd H' d u), fun v H' => H' d = some (.frz od u) ∧ E.rt v (upd H' d u), fun σ' H' => H' d = some (.frz od u) ∧ E.bk σ' (upd H' d u), fun σ' H' => H' d = some (.frz od u) ∧ E.ct σ' (upd H' d u)⟩
theorem unl_next {a : Addr} {od : Obj} {kvs : List (Key × V)} {E : Ends} {l : Nat} {m : List (Key × D)} {ρ : Env} (ha : φ[l]? = some a) (hp : H a = some (.dK kvs)) (o : OutF c W H φ (unlF l m (.next ρ S)) E)
    {σ' : St} (e : Ext (upd H a (.frz od (.dK kvs))) φ H' φ') (s : RepS c H' φ' S) (r : RepE c H' φ' ρ σ') : H' a = some (.frz od (.dK kvs)) ∧ E.nx σ' (upd H' a (.dK kvs)) := by
  have h1 : H' a = some (.frz od (.dK kvs)) := e.lock a _ _ upd_same
  obtain ⟨q1, q2⟩ := unlS_out o
  exact ⟨h1, q2 φ' _ σ' (Ext.unlock (List.mem_of_getElem? ha) hp e) (s.unlock (pre_get e.pre ha) h1 q1) (r.apart h1 (by intro z; cases z) rfl)⟩
theorem unl_ret {a : Addr} {od : Obj} {kvs : List (Key × V)} {E : Ends} {l : Nat} {m : List (Key × D)} {d : D} (ha : φ[l]? = some a) (hp : H a = some (.dK kvs)) (o : OutF c W H φ (unlF l m (.ret d S)) E)
    {v : V} (e : Ext (upd H a (.frz od (.dK kvs))) φ H' φ') (s : RepS c H' φ' S) (r : RepV c H' φ' d v) : H' a = some (.frz od (.dK kvs)) ∧ E.rt v (upd H' a (.dK kvs)) := by
  have h1 : H' a = some (.frz od (.dK kvs)) := e.lock a _ _ upd_same
  obtain ⟨q1, q2⟩ := unlS_out o
  exact ⟨h1, q2 φ' _ v (Ext.unlock (List.mem_of_getElem? ha) hp e) (s.unlock (pre_get e.pre ha) h1 q1) (RepV.apart (o' := .dK kvs) h1 (by intro z; cases z) rfl _ _ r)⟩
end
section
variable {X : Cx} {c : Cz} {W : WX} {a b d : Expr} {ea eb ed : Ev} {pos : Pos} {tg : Expr}
open Classical in
noncomputable def forLk (ea : Ev) (g : D → Env → Option Env) (body : Es) (l : Nat) : Es := fun ρ S => match (S[l]?).bind dkR with
  | some m => if ea ρ (S.set l (lkd (dkW m))) = .ok (.dct l) (S.set l (lkd (dkW m))) then unlF l m (forLoop (fun _ => True) g body (m.map fun p => keyD p.1) ρ (S.set l (lkd (dkW m)))) else .stuck
  | none => .stuck
open Classical in
/-- for x in e, e a dict or a list or a tuple -/
noncomputable def sForB (ea : Ev) (g : D → Env → Option Env) (body : Es) : Es := fun ρ S => match ea ρ S with
  | .ok (.dct l) S1 => if S1 = S then forLk ea g body l ρ S else .stuck
  | _ => sFor (iSeq ea) g body ρ S
theorem bind_dkR {S : Sto} {l : Nat} {m : List (Key × D)} (h : (S[l]?).bind dkR = some m) : ∃ xs, S[l]? = some xs ∧ dkR xs = some m := by
  cases q : S[l]? with
  | none => rw [q] at h; cases h
  | some xs => rw [q, Option.bind_some] at h; exact ⟨xs, rfl, h⟩
theorem ms_forB {iter : Expr} {vs : List Nat} {g : D → Env → Option Env} {body : List Stmt} {eb : Es} (h : ME X c W iter ea) (hg : MG X c tg vs g) (hb : MSs X c W body eb) (hc : X.calm = true := by rfl)
    (hs : ∀ x, foldedSetIterable iter X.env x = pure x := by intro _; rfl) : MS X c W (.For tg iter body [] pos) (sForB ea g eb) := fun s => by
  have h1 := ms_for (pos := pos) (mi_seq (tg := tg) h) hg hb hc hs s
  have h2 := ps_for (pos := pos) s.ow hc (pi_keys (tg := tg) (h s)) (hg s.kk s.nd) (hb s) hs
  refine ⟨fun pins sh σ H D I ⟨φ, ρ, S, re, rs, o⟩ => ?_⟩
  unfold sForB at o
  split at o
  · rename_i l S1 eq
    split at o
    · rename_i es
      subst es
      unfold forLk at o
      cases q : (S1[l]?).bind dkR with
      | none => rw [q] at o; exact o.elim
      | some m =>
        rw [q] at o
        obtain ⟨xs, q0, q1⟩ := bind_dkR q
        obtain ⟨a, ha, _⟩ := rs.cell l xs q0
        simp only [] at o
        split at o
        · rename_i hea
          by_cases hk : kindO (H a) = 2
          · obtain ⟨m', kvs, rfl, hp, rm⟩ := rs.dk q0 ha hk (by rw [q1]; intro z; cases z)
            have em : m' = m := by rw [dkR_W] at q1; exact Option.some.inj q1
            subst em
            refine (ps_lock h2).run pins sh σ H D I ⟨a, .dK kvs, hp, trivial, fun od => ?_⟩
            obtain ⟨s2, e2⟩ := rs.lock od ha hp rm
            refine ⟨φ, ρ, S1.set l (lkd (dkW m')), re.ext rs e2, s2, ?_⟩
            rw [hea]
            intro φ1 H1 x e3 s3 r3
            unfold RepV at r3
            obtain ⟨a', rfl, ha', _⟩ := r3
            rw [pre_get e3.pre ha] at ha'
            cases ha'
            have len : m'.length = kvs.length := rm.len
            refine ⟨a, od, rfl, .inl ⟨kvs, e3.lock _ _ _ upd_same, ?_⟩⟩
            refine ⟨fun i n σ H2 => n = kvs.length - i ∧ i ≤ kvs.length ∧ ∃ φ2 ρ2 S2, Ext (upd H a (.frz od (.dK kvs))) φ H2 φ2 ∧ RepE c H2 φ2 ρ2 σ ∧ RepS c H2 φ2 S2 ∧ OutF c W H φ (unlF l m' (forLoop (fun _ => True) g eb ((m'.map fun p => keyD p.1).drop i) ρ2 S2)) D,
              ⟨kvs.length, by simp, Nat.zero_le _, φ1, ρ, _, e3, (re.ext rs e2).ext s2 e3, s3, by rw [List.drop_zero]; exact o⟩, ?_⟩
            rintro i n σ2 H2 ⟨rfl, hle, φ2, ρ2, S2, e4, re4, s4, o4⟩
            have hl2 := e4.lock _ _ _ upd_same
            by_cases hlt : i < kvs.length
            · refine .inr ?_
              have lt : i < (m'.map fun p => keyD p.1).length := by rw [List.length_map, len]; exact hlt
              rw [List.drop_eq_getElem_cons lt] at o4
              unfold forLoop at o4
              rw [if_pos trivial] at o4
              split at o4
              · exact o4.elim
              · rename_i ρ3 eg
                refine ⟨⟨hl2, hlt⟩, fun σ' H' => i + 1 ≤ kvs.length ∧ ∃ φ2 ρ2 S2, Ext (upd H a (.frz od (.dK kvs))) φ H' φ2 ∧ RepE c H' φ2 ρ2 σ' ∧ RepS c H' φ2 S2 ∧ OutF c W H φ (unlF l m' (forLoop (fun _ => True) g eb ((m'.map fun p => keyD p.1).drop (i + 1)) ρ2 S2)) D,
                  fun σ' H' n => ⟨kvs.length - (i + 1), by omega, rfl, n⟩, fun v H3 y => ?_⟩
                obtain ⟨rfl, k, v', hk', rfl⟩ := y
                have ek : (m'.map fun p => keyD p.1)[i] = keyD k := by
                  have e := rm.keys
                  have e1 : (m'.map fun p => keyD p.1) = (kvs.map (·.1)).map keyD := by rw [← e, List.map_map]; rfl
                  have e5 : (m'.map fun p => keyD p.1)[i]? = some (keyD k) := by rw [e1, List.getElem?_map, List.getElem?_map, hk']; rfl
                  exact (List.getElem?_eq_some_iff.mp e5).2
                refine ⟨φ2, ρ2, S2, _, ρ3, re4, s4, by rw [ek]; exact rep_keyV, eg, fun σ3 re5 _ => ⟨φ2, ρ3, S2, re5, s4, ?_⟩⟩
                revert o4
                cases eb ρ3 S2 with
                | next ρ4 S4 => intro o4 φ4 H4 σ4 e5 s5 re5; exact ⟨hlt, φ4, ρ4, S4, e4.trans e5, re5, s5, o4⟩
                | cont ρ4 S4 => intro o4 φ4 H4 σ4 e5 s5 re5; exact ⟨hlt, φ4, ρ4, S4, e4.trans e5, re5, s5, o4⟩
                | brk ρ4 S4 => intro o4 φ4 H4 σ4 e5 s5 re5; exact unl_next ha hp o4 (e4.trans e5) s5 re5
                | ret d S4 => intro o4 φ4 H4 v e5 s5 r5; exact unl_ret ha hp o4 (e4.trans e5) s5 r5
                | exc n ns ds ρ4 S4 => intro o4; exact o4.elim
                | stuck => intro o4; exact o4.elim
            · refine .inl ⟨⟨hl2, by omega⟩, ?_⟩
              have : (m'.map fun p => keyD p.1).drop i = [] := List.drop_eq_nil_of_le (by rw [List.length_map, len]; omega)
              rw [this] at o4
              unfold forLoop at o4
              rw [if_pos trivial] at o4
              exact unl_next ha hp o4 e4 s4 re4
          · refine h2.run pins sh σ H D I ⟨φ, ρ, S1, re, rs, ?_⟩
            rw [eq]
            intro φ1 H1 x e3 s3 r3
            unfold RepV at r3
            obtain ⟨a', rfl, ha', hk'⟩ := r3
            rw [pre_get e3.pre ha] at ha'
            cases ha'
            exact absurd ((e3.kind a (List.mem_of_getElem? ha)).symm.trans hk') hk
        · exact o.elim
    · exact o.elim
  · exact h1.run pins sh σ H D I ⟨φ, ρ, S, re, rs, o⟩
/-! comprehensions -/
/-- the keys of a dict that stands locked -/
def iKeysL (ea : Ev) : Env → Sto → Res Src := fun ρ S => (ea ρ S).bind fun d S1 => match d with
  | .dct l => match S1[l]? with
    | some (.wk [] :: ys) => match dkR ys with
      | some m => .ok ⟨m.map fun p => keyD p.1, fun _ => True⟩ S1
      | none => .stuck
    | _ => .stuck
  | _ => .stuck
theorem mi_keysL {iter : Expr} (h : ME X c W iter ea) : MI X c W tg iter (iKeysL ea) := fun s => by
  refine PI.imp (pi_keys (h s)) fun σ H R ⟨φ, ρ, S, re, rs, o⟩ => ?_
  refine ⟨φ, ρ, S, re, rs, Out.bind o fun d S1 φ1 H1 v e1 s1 r1 o1 => ?_⟩
  split at o1
  · rename_i l
    split at o1
    · rename_i ys q0
      split at o1
      · rename_i m q1
        unfold RepV at r1
        obtain ⟨a, rfl, ha, hk⟩ := r1
        rcases s1.dk2 q0 ha hk with ⟨m', kvs, e, hp, rm⟩ | ⟨q, m', kvs, e, hp, rm⟩
        · cases m' with
          | nil => cases e
          | cons p m' => cases e
        · cases e
          rw [dkR_W] at q1
          cases q1
          refine ⟨a, q, rfl, .inl ⟨kvs, hp, o1 φ1 H1 _ (.refl _ _) s1 ?_⟩⟩
          intro H2 φ2 S2 i e2 s2 _
          have len : m.length = kvs.length := rm.len
          have hl := e2.lock _ _ _ hp
          refine ⟨fun x hx => ?_, fun hle => ⟨hl, by have hle : (m.map fun p => keyD p.1).length ≤ i := hle; rw [List.length_map, len] at hle; exact hle⟩⟩
          have hx : (m.map fun p => keyD p.1)[i]? = some x := hx
          have hi : i < kvs.length := by
            have := (List.getElem?_eq_some_iff.mp hx).1
            rw [List.length_map, len] at this
            exact this
          refine ⟨⟨hl, hi⟩, fun v' H3 y => ?_⟩
          obtain ⟨rfl, k, w, hk', rfl⟩ := y
          have e := rm.keys
          have e1 : (m.map fun p => keyD p.1) = (kvs.map (·.1)).map keyD := by rw [← e, List.map_map]; rfl
          rw [e1, List.getElem?_map, List.getElem?_map, hk'] at hx
          cases hx
          exact ⟨.refl _ _, s2, rep_keyV⟩
      · exact o1.elim
    · exact o1.elim
  · exact o1.elim
open Classical in
/-- the inner one runs while the dict stands locked -/
noncomputable def eLk (l : Nat) (f : Ev) : Ev := fun ρ S => match (S[l]?).bind dkR with
  | some m => match f ρ (S.set l (lkd (dkW m))) with
    | .ok d S2 => if S2[l]? = some (lkd (dkW m)) then .ok d (S2.set l (dkW m)) else .stuck
    | .exc .. => .stuck
    | .stuck => .stuck
  | none => .stuck
theorem lk_read {l : Nat} {f : Ev} {σ : St} {H : Hp} {Q : VK} {φ : List Addr} {ρ : Env} {S : Sto} {a : Addr} (re : RepE c H φ ρ σ) (rs : RepS c H φ S) (ha : φ[l]? = some a) (hk : kindO (H a) = 2)
    (o : Out c H φ (RepV c) (eLk l f ρ S) Q (fun cls d H' => W cls d σ H')) : tLockE (TEm c W f) σ H Q := by
  unfold eLk at o
  cases q : (S[l]?).bind dkR with
  | none => rw [q] at o; exact o.elim
  | some m =>
    rw [q] at o
    obtain ⟨xs, q0, q1⟩ := bind_dkR q
    obtain ⟨m', kvs, rfl, hp, rm⟩ := rs.dk q0 ha hk (by rw [q1]; intro z; cases z)
    have em : m' = m := by rw [dkR_W] at q1; exact Option.some.inj q1
    subst em
    refine ⟨a, .dK kvs, hp, trivial, fun od => ?_⟩
    obtain ⟨s2, e2⟩ := rs.lock od ha hp rm
    refine ⟨φ, ρ, S.set l (lkd (dkW m')), re.ext rs e2, s2, ?_⟩
    simp only [] at o
    revert o
    cases f ρ (S.set l (lkd (dkW m'))) with
    | ok d S2 =>
      intro o
      simp only [] at o
      split at o
      · rename_i hl
        intro φ' H' y e s r
        have h1 : H' a = some (.frz od (.dK kvs)) := e.lock a _ _ upd_same
        exact ⟨h1, o φ' _ y (Ext.unlock (List.mem_of_getElem? ha) hp e) (s.unlock (pre_get e.pre ha) h1 hl) (RepV.apart (o' := .dK kvs) h1 (by intro z; cases z) rfl _ _ r)⟩
      · exact o.elim
    | exc n ns ds S2 => intro o; exact o.elim
    | stuck => intro o; exact o.elim
open Classical in
noncomputable def eLcB (ea : Ev) (g : D → Env → Option Env) (t : EvB) (e : Ev) (vs : List Nat) : Ev := fun ρ S => match ea ρ S with
  | .ok (.dct l) S1 => if S1 = S then eLk l (eLc (iKeysL ea) g t e vs) ρ S else .stuck
  | _ => eLc (iSeq ea) g t e vs ρ S
theorem me_lcB {elt iter : Expr} {ifs : List Expr} {scope : Scope} {own : List (Str × Nat)} {g : D → Env → Option Env} {vs : List Nat} {et : EvB} {ee : Ev}
    (h : ME X c W iter ea) (ok : BlkOk X.N X.env.scope scope own) (hg : ∀ (s : Shared) (H : Hp) (C : Addr) (cl : List (Str × Addr)) (fp : List Addr), MG (X.blk s H scope (compEnvC scope cl C X.env) fp) c tg vs g)
    (ht : ∀ (s : Shared) (H : Hp) (C : Addr) (cl : List (Str × Addr)) (fp : List Addr), MTs (X.blk s H scope (compEnvC scope cl C X.env) fp) c W0 ifs et) (he : ∀ (s : Shared) (H : Hp) (C : Addr) (cl : List (Str × Addr)) (fp : List Addr), ME (X.blk s H scope (compEnvC scope cl C X.env) fp) c W0 elt ee)
    (hv : ∀ j ∈ vs, j ∈ own.map (·.2)) (hc : X.calm = true := by rfl) (hs : ∀ x, foldedSetIterable iter X.env x = pure x := by intro _; rfl) :
    ME X c W (.ListComp elt [⟨tg, iter, ifs, 0⟩] scope pos) (eLcB ea g et ee (own.map (·.2))) := fun s => by
  have h1 := me_lc (pos := pos) (mi_seq (tg := tg) h) ok hg ht he hv hc hs s
  have h2 := me_lc (pos := pos) (mi_keysL (tg := tg) h) ok hg ht he hv hc hs s
  have h3 := pe_lc (pos := pos) hc s.nd (pi_keys (tg := tg) (h s)) ok (fun s' H C cl fp => hg s' H C cl fp s.kk s.nd) (fun s' H C cl fp => ht s' H C cl fp (s.blk ..)) (fun s' H C cl fp => he s' H C cl fp (s.blk ..)) hs
  refine ⟨fun pins sh σ H Q I ⟨φ, ρ, S, re, rs, o⟩ => ?_⟩
  unfold eLcB at o
  split at o
  · rename_i l S1 eq
    split at o
    · rename_i es
      subst es
      by_cases hl : ∃ a, φ[l]? = some a ∧ kindO (H a) = 2
      · obtain ⟨a, ha, hk⟩ := hl
        exact (pe_lock h2).run pins sh σ H Q I (lk_read re rs ha hk o)
      · refine h3.run pins sh σ H Q I ⟨φ, ρ, S1, re, rs, ?_⟩
        rw [eq]
        intro φ1 H1 x e3 s3 r3
        unfold RepV at r3
        obtain ⟨a', rfl, ha', hk'⟩ := r3
        have lt : l < φ.length := by
          rw [rs.len, ← s3.len]
          exact (List.getElem?_eq_some_iff.mp ha').1
        have ha : φ[l]? = some φ[l] := List.getElem?_eq_getElem lt
        rw [pre_get e3.pre ha] at ha'
        cases ha'
        exact absurd ⟨φ[l], ha, (e3.kind _ (List.mem_of_getElem? ha)).symm.trans hk'⟩ hl
    · exact o.elim
  · exact h1.run pins sh σ H Q I ⟨φ, ρ, S, re, rs, o⟩
end
end MP
end
section
set_option Elab.async false
set_option linter.all false
set_option maxRecDepth 100000
set_option maxHeartbeats 1000000
/-! MPU: is None; del xs[i]; keywords in any order; a list unpacked. -/
namespace MP
open PySem PySem.Spec PyProof.Rows L2
section
variable {X : Cx} {c : Cz} {W : WX} {a b d : Expr} {ea eb ed : Ev} {pos : Pos} {tg : Expr}
def isNon : D → Bool
  | .non => true
  | _ => false
theorem isNon_rep {d : D} {v : V} {H : Hp} {φ : List Addr} (r : RepV c H φ d v) : decide (v = .non) = isNon d := by
  cases d <;> unfold RepV at r <;> first
    | (subst r; rfl)
    | (obtain ⟨_, _, rfl, _⟩ := r; rfl)
    | (obtain ⟨_, rfl, _⟩ := r; rfl)
    | (obtain ⟨_, _, _, _, rfl, _⟩ := r; rfl)
    | (obtain ⟨_, _, _, _, _, rfl, _⟩ := r; rfl)
def dIsN : Op2 := fun d e S => if isNon e = true then some (.bl (isNon d), S) else none
def dNotN : Op2 := fun d e S => if isNon e = true then some (.bl (!isNon d), S) else none
theorem isNon_eq {e : D} (h : isNon e = true) : e = .non := by
  cases e <;> first
    | rfl
    | cases h
theorem od_isN : OpD X c (compareOp .Is) dIsN := fun kk => by
  refine OpR.imp op_isN fun x y H Q ⟨φ, S, d, e, rs, r1, r2, o⟩ => ?_
  unfold dIsN at o
  split at o
  · rename_i h
    have := isNon_eq h
    subst this
    unfold RepV at r2
    refine ⟨r2, ?_⟩
    rw [isNon_rep r1]
    exact o φ H _ (.refl _ _) rs rep_bl
  · exact o.elim
theorem od_notN : OpD X c (compareOp .IsNot) dNotN := fun kk => by
  refine OpR.imp op_notN fun x y H Q ⟨φ, S, d, e, rs, r1, r2, o⟩ => ?_
  unfold dNotN at o
  split at o
  · rename_i h
    have := isNon_eq h
    subst this
    unfold RepV at r2
    refine ⟨r2, ?_⟩
    rw [isNon_rep r1]
    exact o φ H _ (.refl _ _) rs rep_bl
  · exact o.elim
/-! del xs[i] -/
def sDelL (eo ei : Ev) : Es := fun ρ S => ofRes (eo ρ S) ρ fun d S1 => ofRes (ei ρ S1) ρ fun k S2 => match d, k with
  | .lst l, .int i => match S2[l]? with
    | some xs => if 0 ≤ i ∧ i < xs.length ∧ i < 1000000 then .next ρ (S2.set l (xs.eraseIdx i.toNat)) else .stuck
    | none => .stuck
  | _, _ => .stuck
theorem ms_delL {o i : Expr} {eo ei : Ev} {tpos : Pos} (ho : ME X c W o eo) (hi : ME X c W i ei) : MS X c W (.Delete [.Subscript o i tpos] pos) (sDelL eo ei) := fun s => by
  refine PS.imp (ps_delL (ho s) (hi s)) fun D σ H ⟨φ, ρ, S, re, rs, o⟩ => ?_
  refine ⟨φ, ρ, S, re, rs, flow_out re rs o fun d S1 φ1 H1 v e1 s1 r1 re1 o1 => ?_⟩
  refine ⟨φ1, ρ, S1, re1, s1, flow_out re1 s1 o1 fun k S2 φ2 H2 w e2 s2 r2 re2 o2 => ?_⟩
  have r3 := RepV.ext s1.ls e2 _ _ r1
  cases d <;> cases k <;> first
    | exact o2.elim
    | skip
  rename_i l i
  simp only [] at o2
  split at o2
  · rename_i xs q0
    split at o2
    · rename_i hc
      unfold RepV at r2
      subst r2
      obtain ⟨q', us, rfl, k0, k1, k2⟩ := lst_at s2 r3 q0
      have hl := k2.length
      refine ⟨q', us, i, i.toNat, rfl, rfl, k1, by omega, by omega, ?_, ?_⟩
      · unfold seqIndex?
        rw [← hl]
        simp
        omega
      · obtain ⟨s3, e3⟩ := s2.write k0 (by rw [k1]; rfl) (k2.eraseIdx i.toNat)
        exact o2 φ2 _ _ e3 s3 (re2.ext s2 e3)
    · exact o2.elim
  · exact o2.elim
/-! keywords in any order -/
def pmP (is : List Nat) {α : Type} (_ ws : List α) : List α := is.filterMap fun i => ws[i]?
theorem vals_nth {xs : List V} {us : List Value} (r : Vals xs us) {i : Nat} (h : i < xs.length) : ∃ x u, xs[i]? = some x ∧ us[i]? = some u ∧ RelV x u := by
  obtain ⟨u, e1, e2⟩ := r.get (List.getElem?_eq_getElem h)
  exact ⟨_, u, List.getElem?_eq_getElem h, e1, e2⟩
theorem perm_P {m : Nat} (is : List Nat) (h : ∀ i ∈ is, i < m) : Perm 0 m (@pmP is) where
  vals := fun {vs zs us ws} _ h2 _ r => by
    unfold pmP
    induction is with
    | nil => exact .nil
    | cons i is ih =>
      obtain ⟨x, u, e1, e2, e3⟩ := vals_nth r (i := i) (by rw [h2]; exact h i (by simp))
      rw [List.filterMap_cons, List.filterMap_cons, e1, e2]
      exact .cons e3 (ih fun j hj => h j (by simp [hj]))
  rep := fun {c H φ ds es vs zs} _ h2 _ r => by
    unfold pmP
    induction is with
    | nil => exact .nil
    | cons i is ih =>
      have hi : i < es.length := by rw [r.length, h2]; exact h i (by simp)
      obtain ⟨v, e2, e3⟩ := r.get (List.getElem?_eq_getElem hi)
      rw [List.filterMap_cons, List.filterMap_cons, List.getElem?_eq_getElem hi, e2]
      exact .cons e3 (ih fun j hj => h j (by simp [hj]))
/-! a list unpacked -/
def sBindL (n : Nat) (r : List D → Env → Option Env) (e : Ev) : Es := fun ρ S => ofRes (e ρ S) ρ fun d S1 => match d with
  | .lst l => match S1[l]? with
    | some xs => if xs.length = n then (match r xs ρ with
      | some ρ' => .next ρ' S1
      | none => .stuck) else .stuck
    | none => .stuck
  | _ => .stuck
theorem ms_bindL {es : List Expr} {k n : Nat} {vs : List Nat} {r : List D → Env → Option Env} {tp : Pos} (h : ME X c W a ea) (hg : MGs X c es vs r) (hc : X.calm = true := by rfl)
    (hn : (assignEach es X.env).length = n := by rfl) (hst : (assignEach es X.env).findIdx? (·.1) = none := by rfl) (hs : swapsWithSole [.Tuple es k tp] a pos.line X.env = pure false := by rfl) (hw : swappedStores [.Tuple es k tp] a X.env = pure none := by rfl)
    (h1 : (assignEach [.Tuple es k tp] X.env).map (·.2) = [assign (.Tuple es k tp) X.env] := by rfl) : MS X c W (.Assign [.Tuple es k tp] a pos) (sBindL n r ea) := fun s => by
  refine PS.imp (ps_asg (h s) (pg_unl hc (hg s.kk s.nd) hn hst) hs hw h1) fun D σ H ⟨φ, ρ, S, re, rs, o⟩ => ?_
  refine ⟨φ, ρ, S, re, rs, flow_out re rs o fun d S1 φ1 H1 v e1 s1 r1 re1 o1 => ?_⟩
  cases d <;> first
    | exact o1.elim
    | skip
  rename_i l
  simp only [] at o1
  split at o1
  · rename_i xs q0
    split at o1
    · rename_i hl
      split at o1
      · rename_i ρ' eg
        obtain ⟨q', us, rfl, k0, k1, k2⟩ := lst_at s1 r1 q0
        refine ⟨q', us, rfl, ?_, by rw [← k2.length]; exact hl, φ1, ρ, S1, xs, ρ', re1, s1, k2, eg, fun σ' re2 _ => o1 φ1 H1 σ' (.refl _ _) s1 re2⟩
        rw [← s.kk]
        exact SqL.of k1
      · exact o1.elim
    · exact o1.elim
  · exact o1.elim
end
end MP
end
section
set_option Elab.async false
set_option linter.all false
set_option maxRecDepth 100000
set_option maxHeartbeats 1000000
/-! MPV: a try with several clauses, each with a name; suites that change lists. -/
namespace L2
open PySem PySem.Spec PyProof.Rows
/-- what the named clauses, one after the other, wish of an exception of the body -/
def wRow (K : PySem.W.Frag) (Wout : WX) (D : Ends) : List (Value × Nat × (Addr → Value → Option Addr → TS)) → WX
  | [] => Wout
  | (c, i, ts) :: r => wAs K c i ts (wRow K Wout D r) D
inductive ClsOk (X : Cx) : List ExceptHandler → List (Value × Nat × (Addr → Value → Option Addr → TS)) → Prop
  | done : ClsOk X [] []
  | more {x n : Str} {c : Value} {i : Nat} {ts : Addr → Value → Option Addr → TS} {b₀ : Stmt} {suite : List Stmt} {np ps : Pos} {hds : List ExceptHandler} {l : List (Value × Nat × (Addr → Value → Option Addr → TS))} (hi : X.N[i]? = some n) (hl : X.env.kindOf n = some .local) (hc : Names X x c)
      (su : ∀ (a : Addr) (oe : Obj) (cls : Value) (d : Option Addr) (pn : List (Addr × Obj)), Zc cls d oe → (∃ vs, oe.data = .fields vs) → PSs (X.suite a ((a, oe) :: pn)) (b₀ :: suite) (ts a cls d)) (r : ClsOk X hds l) :
      ClsOk X (.ExceptHandler (some (.Name x np)) (some n) (b₀ :: suite) ps :: hds) ((c, i, ts) :: l)
section
variable {X : Cx} {body : List Stmt} {h₀ : ExceptHandler} {hds : List ExceptHandler} {l : List (Value × Nat × (Addr → Value → Option Addr → TS))} {pos : Pos} {tb : WX → TS} {Wout : WX}
theorem ps_try_row (hs : X.stack = X.env :: X.outer) (hf : X.env.frame = some X.env.locals) (hN : X.N.Nodup) (tk : Takes X Wout)
    (hb : ∀ (W : WX) (pn : List (Addr × Obj)) (xe : Value → Shared → Prop), Takes (X.tr pn xe) W → PassesOwn (model X.prog X.w) X.A X.env xe → PSs (X.tr pn xe) body (tb W))
    (hh : ClsOk X (h₀ :: hds) l) : PS X (.Try body (h₀ :: hds) [] [] pos) (fun D σ H => tb (wRow X.K Wout D l) D σ H) := by
  refine ⟨fun pins s σ H D I h => ?_⟩
  have ok := I.ok
  have hfr : X.A.frames = some (X.env :: X.outer) := by rw [ok.frames, hs]
  refine wpAny_Try_except ?_
  refine wpAny_mono ((hb (wRow X.K Wout D l) (X.pn ++ pins) (fun e s₁ => wpAny (model X.prog X.w) X.A (noteFrame e X.env) (fun _ s₂ => wpAny (model X.prog X.w) X.A (setFlight e none) (fun _ s₃ =>
    wpAny (model X.prog X.w) X.A (handleBy e X.env (h₀ :: hds)) (SP X pins D) X.xe s₃) X.xe s₂) X.xe s₁) (fun u s' xx => ?_) PassesOwn.looking).run [] s σ H D (I.toTry _) h) (fun f s1 hsp => ?_) (fun e s1 he => he)
  rotate_left 1
  · -- no exception
    cases f with
    | next => exact wpAny_execs_nil (hsp.elim fun σ' t => t.elim fun H' t => ⟨σ', H', t.1.ofTry ok, t.2⟩)
    | brk => exact hsp.elim fun σ' t => t.elim fun H' t => ⟨σ', H', t.1.ofTry ok, t.2⟩
    | cont => exact hsp.elim fun σ' t => t.elim fun H' t => ⟨σ', H', t.1.ofTry ok, t.2⟩
    | ret u => exact hsp.elim fun v t => t.elim fun σ' t => t.elim fun H' t => ⟨v, σ', H', t.1.ofTry ok, t.2.1, t.2.2⟩
  obtain ⟨a, B, sI, pins', σ', H', cls, d, rfl, J', nb, up, sky, na, os, ag, w⟩ := xx
  have J : Inv X pins σ' H' sI := J'.ofTry ok
  have sky' : Sky B (X.env :: X.outer) a (Zc cls d) X.env.locals s'.heap := by rw [← hs]; exact sky
  show wpAny (model X.prog X.w) X.A (noteFrame (.ref a) X.env) _ _ _
  refine Sky.land Zc.steady hfr hf sky' fun h3 fl3 up3 => ?_
  have J3 : Inv X pins σ' H' { s' with heap := h3 } := J.landed nb fl3.1 (up.trans up3) os ag
  obtain ⟨oe3, vs3, he3, hz3, hd3⟩ := fl3.there
  have off : a ∉ frs (X.env :: X.outer) := fun hm => by
    obtain ⟨_, o', e', hnf⟩ := fl3.2.2.1.mem hm
    rw [he3] at e'
    cases e'
    exact hnf _ hd3
  have nL : a ≠ X.env.locals := fun z => off (List.mem_filterMap.mpr ⟨X.env, List.mem_cons_self, by rw [hf, z]⟩)
  have nF : a ∉ X.fs := fun hm => by
    obtain ⟨e, he, q⟩ := List.mem_filterMap.mp hm
    exact off (List.mem_filterMap.mpr ⟨e, List.mem_cons_of_mem _ he, q⟩)
  have S3 := J3.suite he3 hd3 na nL nF
  have LT : PySem.W.Looks (model X.prog X.w) h3 (typeOf (.ref a)) cls := fun A Q E s k q => wpAny_typeOf_ref (k _ _ he3) (by rw [hz3.1]; exact q)
  have go : ∀ {hs' : List ExceptHandler} {l' : List (Value × Nat × (Addr → Value → Option Addr → TS))}, ClsOk X hs' l' → wRow X.K Wout D l' cls d σ' H' →
      wpAny (model X.prog X.w) X.A (handleBy (.ref a) X.env hs') (SP X pins D) X.xe { s' with heap := h3 } := by
    intro hs' l' hk
    induction hk with
    | done =>
      intro w
      refine wpAny_handleBy_nil ?_
      obtain ⟨k1, k2, k3, oe, vs, T, oT, ts', he, hz, hd, h1, hr⟩ := id fl3
      unfold PySem.passOn
      refine wpAny_bind (wpAny_field he hd h1 ?_)
      rw [if_neg (show ¬ ((Value.ref T == Value.none) = true) from by simp)]
      have fin : wpAny (model X.prog X.w) X.A (setFlight (.ref a) X.env.frame) (fun _ s4 => wpAny (model X.prog X.w) X.A (throw (.ref a) : Sem Flow) (SP X pins D) X.xe s4) X.xe { s' with heap := h3 } := by
        rw [hf]
        refine HandSPX.setFlight_upZ fl3 fun h4 hh4 up4 => wpAny_throw (tk _ _ ?_)
        exact ⟨a, B, sI, pins, σ', H', cls, d, rfl, J, nb, (up.trans up3).trans up4, .inr (.inr (by rw [hs]; exact hh4)), na, os, ag, w⟩
      first
        | exact wpAny_bind (wpAny_pure (wpAny_bind fin))
        | exact wpAny_bind fin
    | @more x n c i ts b₀ suite np ps hds2 l2 hi hl hc su r ih =>
      intro w
      obtain ⟨b, hb1, hyes, hno⟩ := w
      refine wpAny_handleBy_cons (codeAny_handlers_test ?_) (by intro q; cases q)
      have LM := PySem.W.exm_one (M := model X.prog X.w) (J3.kIn) LT hb1
      have test : ∀ {Q : Value → Shared → Prop} {E : Value → Shared → Prop}, Q c { s' with heap := h3 } → wpAny (model X.prog X.w) (X.A.mark (some (.ref a))) (eval (.Name x np) X.env) Q E { s' with heap := h3 } := fun {Q E} q => by
        obtain ⟨hg, hdbg, hm | ⟨hm, hv, hnn⟩⟩ := hc
        · exact ld_glob (X := X.suite a ((a, oe3) :: (X.pn ++ pins))) S3 hg hm q hdbg
        · exact ld_blt (X := X.suite a ((a, oe3) :: (X.pn ++ pins))) S3 hg hm hv q hnn hdbg
      refine test (LM.here ?_)
      cases b with
      | false =>
        show wpAny _ X.A (handleBy (.ref a) X.env hds2) _ _ _
        exact ih (hno rfl)
      | true =>
        refine codeAny_handlers_suite_as ?_
        refine HandSPX.lands_againZ fl3 fun h4 fl4 up4 => ?_
        have J4 : Inv X pins σ' H' { s' with heap := h4 } := J.landed nb fl4.1 ((up.trans up3).trans up4) os ag
        obtain ⟨oe4, vs4, he4, hz4, hd4⟩ := fl4.there
        have S4 := J4.suite he4 hd4 na nL nF
        refine store_ok (X := X.suite a ((a, oe4) :: (X.pn ++ pins))) (v := .ref a) S4 hN hi (.inl hl) rfl (fun s5 S5 => ?_) (.inr hl)
        refine wpAny_mono ((su a oe4 cls d (X.pn ++ pins) hz4 ⟨_, hd4⟩).run [] s5 _ H' _ S5 (hyes rfl a na)) (fun f s6 hsp => ?_) (fun _ _ z => False.elim z)
        have fin : ∀ {σ6 : St} {H6 : Hp} {Q : Shared → Prop}, Inv (X.suite a ((a, oe4) :: (X.pn ++ pins))) [] σ6 H6 s6 → (∀ s7, Inv X pins (σ6.set i none) H6 s7 → Q s7) →
            wpAny (model X.prog X.w) X.A (do bindName X.env n .none; unbindBehindTheSuite X.env n ps) (fun _ s7 => Q s7) X.xe s6 := fun {σ6 H6 Q} S6 hq => gone_ok (S6.unsuite ok) hN hi hl hq
        cases f with
        | next => exact hsp.elim fun σ6 t => t.elim fun H6 t => fin t.1 fun s7 J7 => ⟨_, _, J7, t.2⟩
        | brk => exact hsp.elim fun σ6 t => t.elim fun H6 t => fin t.1 fun s7 J7 => ⟨_, _, J7, t.2⟩
        | cont => exact hsp.elim fun σ6 t => t.elim fun H6 t => fin t.1 fun s7 J7 => ⟨_, _, J7, t.2⟩
        | ret u => exact hsp.elim fun v6 t => t.elim fun σ6 t => t.elim fun H6 t => fin t.1 fun s7 J7 => ⟨_, _, _, J7, t.2.1, t.2.2⟩
  exact go hh w
end
end L2
namespace MP
open PySem PySem.Spec PyProof.Rows L2
/-- what is new in the lists bears no caught error -/
def stOk (S S' : Sto) : Prop := ∀ (l : Nat) (xs : List D), S'[l]? = some xs → S[l]? = some xs ∨ noXL xs = true
theorem noXL_ents {κ : Type} {f : κ → D} : ∀ {ks : List κ} {ds : List D}, ks.length = ds.length → noXL (ents f ks ds) = true → noXL ds = true
  | [], [], _, _ => by unfold noXL; rfl
  | [], _ :: _, h, _ => by simp at h
  | _ :: _, [], h, _ => by simp at h
  | k :: ks, d :: ds, h, e => by
    unfold ents at e
    rw [List.zipWith_cons_cons] at e
    unfold noXL at e
    rw [Bool.and_eq_true] at e
    have e1 := e.1
    unfold noX noXL at e1
    rw [Bool.and_eq_true] at e1
    have e2 := e1.2
    unfold noXL at e2
    rw [Bool.and_eq_true] at e2
    unfold noXL
    rw [Bool.and_eq_true]
    exact ⟨e2.1, noXL_ents (by simpa using h) e.2⟩
theorem Cell.clean {c c' : Cz} {H : Hp} {φ : List Addr} {xs : List D} {a : Addr} (hk : c'.K = c.K) (hm : c'.mg = c.mg) (n : noXL xs = true) (r : Cell c H φ xs a) : Cell c' H φ xs a := by
  rcases r with ⟨vs, h2, h3⟩ | ⟨kvs, ds, h2, h3, h4⟩ | ⟨kvs, ds, h2, h3, h4⟩ | ⟨q, kvs, ds, h2, h3, h4⟩
  · exact .inl ⟨vs, h2, RepL.swap hk hm _ _ n h3⟩
  · refine .inr (.inl ⟨kvs, ds, h2, h3, RepL.swap hk hm _ _ (noXL_ents ?_ (h3 ▸ n)) h4⟩)
    rw [h4.length, List.length_map, List.length_map]
  · refine .inr (.inr (.inl ⟨kvs, ds, h2, h3, RepL.swap hk hm _ _ (noXL_ents ?_ (h3 ▸ n)) h4⟩))
    rw [h4.length, List.length_map, List.length_map]
  · refine .inr (.inr (.inr ⟨q, kvs, ds, h2, h3, RepL.swap hk hm _ _ (noXL_ents (f := keyD) (ks := kvs.map (·.1)) ?_ ?_) h4⟩))
    · rw [h4.length, List.length_map, List.length_map]
    · rw [h3] at n
      unfold lkd noXL at n
      rw [Bool.and_eq_true] at n
      exact n.2
theorem RepS.swapM {c c' : Cz} {H H0 : Hp} {φ φ0 : List Addr} {S S' : Sto} (hk : c'.K = c.K) (hm : c'.mg = c.mg) (h0 : c'.xc = none) (r0 : RepS c' H0 φ0 S) (k : stOk S S') (e : Ext H0 φ0 H φ) (r : RepS c H φ S') : RepS c' H φ S' := by
  refine ⟨r.nd, r.len, fun l xs h => ?_⟩
  obtain ⟨a, h1, h2⟩ := r.cell l xs h
  rcases k l xs h with h' | n
  · obtain ⟨b, g1, g2⟩ := r0.cell l xs h'
    have q := pre_get e.pre g1
    rw [h1] at q
    cases q
    exact ⟨a, h1, Cell.swap hk hm h0 g2 (e.kind a (List.mem_of_getElem? g1)).symm h2⟩
  · exact ⟨a, h1, h2.clean hk hm n⟩
noncomputable def suiteEndM (S : Sto) : Flow → Flow
  | .ret d S' => keepIf (noX d = true ∧ stOk S S') (.ret d S')
  | .next ρ S' => keepIf ((∀ d, some d ∈ ρ → noX d = true) ∧ stOk S S') (.next ρ S')
  | .brk ρ S' => keepIf ((∀ d, some d ∈ ρ → noX d = true) ∧ stOk S S') (.brk ρ S')
  | .cont ρ S' => keepIf ((∀ d, some d ∈ ρ → noX d = true) ∧ stOk S S') (.cont ρ S')
  | .exc .. => .stuck
  | .stuck => .stuck
theorem suite_backM {c c' : Cz} {W : WX} {H : Hp} {φ : List Addr} {S : Sto} {f : Flow} {D : Ends} (hk : c.K = c'.K) (hm : c.mg = c'.mg) (h0 : c.xc = none) (r0 : RepS c H φ S) (o : OutF c W H φ (suiteEndM S f) D) : OutF c' W0 H φ f D := by
  have env : ∀ {H' : Hp} {φ' : List Addr} {ρ : Env} {σ : St}, (∀ d, some d ∈ ρ → noX d = true) → RepE c' H' φ' ρ σ → RepE c H' φ' ρ σ := fun {H' φ' ρ σ} n r =>
    ⟨r.1, fun i d e => by
      obtain ⟨v, h1, h2⟩ := r.2 i d e
      exact ⟨v, h1, RepV.swap hk hm _ _ (n d (List.mem_of_getElem? e)) h2⟩⟩
  cases f with
  | ret d S' =>
    obtain ⟨⟨h1, es⟩, o2⟩ := keepIf_out o
    exact fun φ' H' v e s r => o2 φ' H' v e (RepS.swapM hk hm h0 r0 es e s) (RepV.swap hk hm _ _ h1 r)
  | next ρ S' =>
    obtain ⟨⟨h1, es⟩, o2⟩ := keepIf_out o
    exact fun φ' H' σ' e s r => o2 φ' H' σ' e (RepS.swapM hk hm h0 r0 es e s) (env h1 r)
  | brk ρ S' =>
    obtain ⟨⟨h1, es⟩, o2⟩ := keepIf_out o
    exact fun φ' H' σ' e s r => o2 φ' H' σ' e (RepS.swapM hk hm h0 r0 es e s) (env h1 r)
  | cont ρ S' =>
    obtain ⟨⟨h1, es⟩, o2⟩ := keepIf_out o
    exact fun φ' H' σ' e s r => o2 φ' H' σ' e (RepS.swapM hk hm h0 r0 es e s) (env h1 r)
  | exc n ns ds ρ S' => exact o.elim
  | stuck => exact o.elim
/-- which of some classes a clause takes -/
def decL : List (Str × Bool) → Str → Option Bool
  | [], _ => none
  | (x, b) :: r, m => if m = x then some b else decL r m
theorem decL_nil {K : PySem.W.Frag} {mg : Str → Option Value} {cv : Value} : ∀ (m : Str) (b : Bool) (cls : Value), decL [] m = some b → mg m = some cls → PySem.W.exmOne K cls cv = some b := fun m b cls e => by cases e
theorem decL_cons {K : PySem.W.Frag} {mg : Str → Option Value} {cv : Value} {x : Str} {b0 : Bool} {r : List (Str × Bool)} {C : Addr} (h : PySem.W.exmOne K (.ref C) cv = some b0) (hg : mg x = some (.ref C))
    (k : ∀ (m : Str) (b : Bool) (cls : Value), decL r m = some b → mg m = some cls → PySem.W.exmOne K cls cv = some b) :
    ∀ (m : Str) (b : Bool) (cls : Value), decL ((x, b0) :: r) m = some b → mg m = some cls → PySem.W.exmOne K cls cv = some b := fun m b cls e hm => by
  unfold decL at e
  split at e
  · rename_i hx
    subst hx
    cases e
    rw [hg] at hm
    cases hm
    exact h
  · exact k m b cls e hm
abbrev Cla : Type := Nat × (Str → Option Bool) × Es
noncomputable def sPick (n : Str) (ns : List Str) (ds : List D) (ρ : Env) (S : Sto) : List Cla → Flow
  | [] => .exc n ns ds ρ S
  | (i, dec, su) :: r => match dec n with
    | some true => suiteEndM S (unset i (su (ρ.set i (some (.exn n ns ds))) S))
    | some false => sPick n ns ds ρ S r
    | none => .stuck
noncomputable def sTryRow (cl : List Cla) (body : Es) : Es := fun ρ S => match body ρ S with
  | .exc n ns ds ρ' S' => sPick n ns ds ρ' S' cl
  | f => f
inductive CLS (X : Cx) (c : Cz) : List ExceptHandler → List Cla → Prop
  | nil : CLS X c [] []
  | cons {n ex : Str} {cv : Value} {dec : Str → Option Bool} {suite : List Stmt} {b0 : Stmt} {np hp : Pos} {es' : Es} {hds : List ExceptHandler} {l : List Cla} (i : Nat)
    (hdec : ∀ m b cls, dec m = some b → X.mg m = some cls → PySem.W.exmOne X.K cls cv = some b) (hn : Names X ex cv)
    (hsu : ∀ (a : Addr) (oe : Obj) (cls : Value) (d : Addr) (pn : List (Addr × Obj)), Zc cls (some d) oe → (∃ vs, oe.data = .fields vs) → MSs (X.suite a ((a, oe) :: pn)) (c.hot a cls d) W0 (b0 :: suite) es')
    (r : CLS X c hds l) (hi : X.N[i]? = some n := by rfl) (hln : X.env.kindOf n = some .local := by rfl) :
    CLS X c (.ExceptHandler (some (.Name ex np)) (some n) (b0 :: suite) hp :: hds) ((i, dec, es') :: l)
section
variable {X : Cx} {c : Cz} {W : WX} {pos : Pos}
theorem cls_row (h0 : c.xc = none) (s : Sh X c W) {hds : List ExceptHandler} {cl : List Cla} (h : CLS X c hds cl) : ∃ l', ClsOk X hds l' ∧
    ∀ {H H' : Hp} {φ φ' : List Addr} {DE : Ends} {m : Str} {ns : List Str} {ds : List MP.D} {ρ' : Env} {S' : Sto} {σ' : St} {cls : Value} {dx : Addr} {vs : List V}, Ext H φ H' φ' → RepS c H' φ' S' → RepE c H' φ' ρ' σ' → c.mg m = some cls →
      H' dx = some (.xd (ns.zip vs)) → ns.length = vs.length → RepL c H' φ' ds vs → OutF c W H φ (sPick m ns ds ρ' S' cl) DE → wRow X.K W DE l' cls (some dx) σ' H' := by
  induction h with
  | nil => exact ⟨[], .done, fun e s1 r1 hm hd hl rl o => o _ _ _ _ _ _ e s1 r1 hm hd hl rl⟩
  | @cons n ex cv dec suite b0 np hp es' hds l i hdec hn hsu r hi hln ih =>
    obtain ⟨l', k1, k2⟩ := ih
    refine ⟨(cv, i, fun a cls d => tsm c es' a cls d) :: l', .more hi hln hn (fun a oe cls d pn hz hf => ?_) k1, fun {H H' φ φ' DE m ns ds ρ' S' σ' cls dx vs} e s1 r1 hm hd hl rl o => ?_⟩
    · cases d with
      | none => exact ⟨fun _ _ _ _ _ _ h => h.elim⟩
      | some d => exact hsu a oe cls d pn hz hf ⟨s.kk, s.mm, takes0, PassesOwn.never, s.nd⟩
    · unfold sPick at o
      show wAs _ _ _ _ _ _ _ _ _ _
      cases hq : dec m with
      | none => simp only [hq] at o; exact o.elim
      | some bb =>
        simp only [hq] at o
        refine ⟨bb, hdec m bb cls hq (by rw [← s.mm]; exact hm), fun hbt a' ha' => ?_, fun hbf => ?_⟩
        · subst hbt
          have hotK : (c.hot a' cls dx).K = c.K := rfl
          refine ⟨φ', ρ'.set i (some (.exn m ns ds)), S', ?_, RepS.hot hotK rfl h0 s1, ?_⟩
          · refine (RepE.hot hotK rfl h0 r1).set ?_
            unfold RepV
            exact ⟨a', cls, dx, vs, rfl, rfl, hm, hd, hl, RepL.swap hotK rfl _ _ (RepL.noX h0 _ _ rl) rl⟩
          · exact unset_out (suite_backM (c := c) (W := W) rfl rfl h0 s1 (OutF.later o e))
        · subst hbf
          exact k2 e s1 r1 hm hd hl rl o
theorem ms_tryRow {body : List Stmt} {hd : ExceptHandler} {hds : List ExceptHandler} {eb' : Es} {cl : List Cla} (h0 : c.xc = none)
    (hb : ∀ (W : WX) (pn : List (Addr × Obj)) (xe : Value → Shared → Prop), Takes (X.tr pn xe) W → PassesOwn (model X.prog X.w) X.A X.env xe → MSs (X.tr pn xe) c W body eb')
    (hh : CLS X c (hd :: hds) cl) (hs : X.stack = X.env :: X.outer := by rfl) (hf : X.env.frame = some X.env.locals := by rfl) :
    MS X c W (.Try body (hd :: hds) [] [] pos) (sTryRow cl eb') := fun s => by
  obtain ⟨l', k1, k2⟩ := cls_row h0 s hh
  refine PS.imp (ps_try_row (tb := fun W => TSm c W eb') hs hf s.nd s.tk (fun W pn xe tk ow => hb W pn xe tk ow ⟨s.kk, s.mm, tk, ow, s.nd⟩) k1) fun D σ H ⟨φ, ρ, S, re, rs, o⟩ => ⟨φ, ρ, S, re, rs, ?_⟩
  unfold sTryRow at o
  revert o
  cases eb' ρ S with
  | exc m ns ds ρ' S' =>
    intro o φ' H' σ' cls dx vs e s1 r1 hm hd hl rl
    exact k2 e s1 r1 hm hd hl rl o
  | next ρ' S' => intro o; exact o
  | brk ρ' S' => intro o; exact o
  | cont ρ' S' => intro o; exact o
  | ret d S' => intro o; exact o
  | stuck => intro o; exact o
end
end MP
end
section
set_option Elab.async false
set_option linter.all false
set_option maxRecDepth 100000
set_option maxHeartbeats 4000000
/-! MPW: own errors made with keywords, held as values. -/
namespace PySem
namespace OEXK
open PySem.W PySem.Calls PyProof.Rows PySem.HandSPX Builtin
section
variable {M : Model} {A : Around} {E : Value → Shared → Prop} {h : Heap} {g : Array GenState} {d : Drawn} {t : Nat} {os : OsState}
variable {nm q : Str} {C N : Addr} {bs bm bmB : List Value} {hdct : Bool} {sn : List Str} {sub : List Value} {ab : Bool} {col : Option Bool} {dd : Option Addr} {k0 k1 k2 k3 k5 : Option Value} {B newId initId : String}
theorem check_new_ownK (F : ExcBaseFacts B newId initId bmB) (hT : ∀ X : String, bm.contains (.type X) = bmB.contains (.type X)) {rest : List Value} {kw : List (Str × Value)} {Q : Unit → Shared → Prop}
    (hC : h.get? C = some (excClassObj nm q C N bs bm hdct sn sub ab col dd k0 k1 k2 k3 k5 newId)) (hq : Q () ⟨h, g, d, t, os⟩) : wpAny M A (checkBuiltinCall newId ⟨.ref C :: rest, kw⟩) Q E ⟨h, g, d, t, os⟩ := by
  have hcont : (Value.ref C :: bm).contains (.type B) = true := by rw [List.contains_cons, hT, F.hasB, Bool.or_true]
  have hstar := F.noStar
  simp only [checkBuiltinCall, F.newKind, F.newSplit, F.newRow]
  repeat (first | refine wpAny_loadPart_at hC ?_ | (refine wpAny_isSubtype_exc hC ?_; rw [hcont]) | refine wpAny_staticBase_exc hC ?_ | refine wpAny_madeBy_exc hC ?_ | simp only [bne_self_eq_false, Bool.false_eq_true, if_false] | wp_step)
  exact hq
end
end OEXK
end PySem
namespace PySem
namespace OEXK
open PySem.W PySem.Calls PyProof.Rows PySem.HandSPX Builtin
section
variable {prog : Program} {w : World} {A : Around} {E : Value → Shared → Prop} {R : Result → Shared → Prop} {h : Heap} {g : Array GenState} {d : Drawn} {t : Nat} {os : OsState}
variable {nm q : Str} {C N : Addr} {bs bm bmB : List Value} {hdct : Bool} {sn : List Str} {sub : List Value} {ab : Bool} {col : Option Bool} {dd : Option Addr} {k0 k1 k2 k3 k5 : Option Value} {B newId initId : String}
theorem new_ownK (F : ExcBaseFacts B newId initId bmB) (hT : ∀ X : String, bm.contains (.type X) = bmB.contains (.type X)) {rest : List Value} {kw : List (Str × Value)}
    (hC : h.get? C = some (excClassObj nm q C N bs bm hdct sn sub ab col dd k0 k1 k2 k3 k5 newId))
    (hq : R (.ok (.ret (.ref (h.objs.size + 1)))) ⟨(h.push { cls := .type "tuple", data := .seq rest.toArray }).push
      { cls := .ref C, data := .fields #[.ref h.objs.size, .none, .none, .none, .bool false, .none] }, g, d, t, os⟩) (hrest : rest.length ≤ sizeLine) :
    codeAny (model prog w) A (.builtin newId ⟨.ref C :: rest, kw⟩) R ⟨h, g, d, t, os⟩ := by
  have hends := F.ends
  have hcB : (Value.ref C :: bm).contains (.type B) = true := by rw [List.contains_cons, hT, F.hasB, Bool.or_true]
  have hcA : (Value.ref C :: bm).contains (.type "AttributeError") = false := by rw [List.contains_cons, hT, F.noAttr]; rfl
  have hcN : (Value.ref C :: bm).contains (.type "NameError") = false := by rw [List.contains_cons, hT, F.noName]; rfl
  refine codeAny_builtinAt F.entry ?_
  unfold Builtin.«BaseException.__new__»
  refine wpAt_bind ?_
  show wpAt _ _ _ (stack >>= _) _ _ _
  refine wpAt_bind (wpAt_stack fun p below => wpAt_of_wpAny ?_)
  wp_walk
  refine wpAt_of_wpAny ?_
  rw [F.owner]
  repeat (first | with_reducible refine wpAny_madeHere_exc F.canon hC ?_ | with_reducible refine wpAny_loadPart_at hC ?_ | (with_reducible refine wpAny_isSubtype_exc hC ?_; first | rw [hcB] | rw [hcA] | rw [hcN]) | wp_step)
  show R _ _
  rw [Heap.size_push]
  exact hq
theorem type_call_ownK (F : ExcBaseFacts B newId initId bmB) (hT : ∀ X : String, bm.contains (.type X) = bmB.contains (.type X)) {rest : List Value} {kw : List (Str × Value)} {fI : Addr} {Q : Fin → Shared → Prop}
    (hC : h.get? C = some (excClassObj nm q C N bs bm hdct sn sub ab col dd k0 k1 k2 k3 k5 newId))
    (hi : W.Looks (model prog w) h (typeLookup (.ref C) "__init__") (some (.ref fI))) (hb : ∀ self, W.Looks (model prog w) h (bindSpecial (.ref fI) self) (.ref fI, [self])) (hrest : rest.length ≤ sizeLine)
    (hq : codeAny (model prog w) A (.call (.ref fI) ⟨.ref (h.objs.size + 1) :: rest, kw⟩)
      (fun r s' => match r with | .ok (.ret v) => v = .none ∧ Q (.done (.ret (.ref (h.objs.size + 1)))) s' | .ok _ => False | .error e => E e s')
      ⟨(h.push (W.kdv_tup rest)).push (excO C h.objs.size), g, d, t, os⟩) :
    wpAny (model prog w) A (Builtin.«type.__call__» ⟨.ref C :: rest, kw⟩) Q E ⟨h, g, d, t, os⟩ := by
  repeat (first | with_reducible refine wpAny_loadPart_at hC ?_ | with_reducible refine wpAny_madeBy_exc hC ?_ | wp_step)
  refine codeAny_call_builtin_code (Code.quiet_builtin _ F.quiet) (check_new_ownK F hT hC ?_)
  refine new_ownK F hT hC ?_ hrest
  show wpAny _ _ _ _ _ _
  have k : ∀ b o, h.get? b = some o → ((h.push (W.kdv_tup rest)).push (excO C h.objs.size)).get? b = some o := fun b o e => Heap.get?_push_of_some _ (Heap.get?_push_of_some _ e)
  have hC₁ := k _ _ hC
  have hget : ((h.push (W.kdv_tup rest)).push (excO C h.objs.size)).get? (h.objs.size + 1) = some (excO C h.objs.size) := by heap_get
  have hcC : (Value.ref C :: bm).contains (.ref C) = true := by simp
  have i1 := hi.keeps k
  have b1 := (hb (.ref (h.objs.size + 1))).keeps k
  unfold isInstance
  repeat (first | with_reducible refine wpAny_loadPart_at hget ?_ | (with_reducible refine wpAny_isSubtype_exc hC₁ ?_; rw [hcC]) | wp_step)
  show wpAny _ _ (typeLookup (.ref C) _) _ _ _
  refine i1.at ?_
  refine wpAny_holding (wpAny_bind (b1.at ?_))
  refine wpAny_bind (wpAny_call (codeAny_mono hq fun r s' z => ?_))
  rcases r with e | (v | _ | _ | _) <;> first | exact z | exact z.elim | skip
  obtain ⟨rfl, z⟩ := z
  first
    | exact wpAny_pure (wpAny_pure z)
    | (wp_walk; exact z)
theorem call_ownK (F : ExcBaseFacts B newId initId bmB) (hT : ∀ X : String, bm.contains (.type X) = bmB.contains (.type X)) {rest : List Value} {kw : List (Str × Value)} {fI : Addr}
    (hC : h.get? C = some (excClassObj nm q C N bs bm hdct sn sub ab col dd k0 k1 k2 k3 k5 newId))
    (hi : W.Looks (model prog w) h (typeLookup (.ref C) "__init__") (some (.ref fI))) (hb : ∀ self, W.Looks (model prog w) h (bindSpecial (.ref fI) self) (.ref fI, [self])) (hrest : rest.length ≤ sizeLine)
    (hq : codeAny (model prog w) (A.under (.builtin "type.__call__" ⟨.ref C :: rest, kw⟩)) (.call (.ref fI) ⟨.ref (h.objs.size + 1) :: rest, kw⟩) (W.InitBack (h.objs.size + 1) R)
      ⟨(h.push (W.kdv_tup rest)).push (excO C h.objs.size), g, d, t, os⟩) :
    codeAny (model prog w) A (.call (.ref C) ⟨rest, kw⟩) R ⟨h, g, d, t, os⟩ := by
  have f1 := tc_lookup
  have f2 := tc_bind (.ref C)
  have hTy : (⟨h, g, d, t, os⟩ : Shared).TypeIs (.ref C) "type" := ⟨_, hC, rfl⟩
  refine codeAny_of_tree ?_
  show wpAny _ _ (callAny (.ref C) _) _ _ _
  repeat (any_goals (first | assumption | with_reducible refine wpAny_loadPart_at hC ?_ | wp_step))
  refine ⟨rfl, ?_⟩
  refine codeAny_call_builtin_at (Code.quiet_builtin _ (by decide +kernel)) entry_typeCall (wpAny_check_type_call_sub hC (type_call_ownK F hT hC hi hb hrest ?_))
  refine codeAny_mono hq fun r s' z => ?_
  rcases r with e | (v | _ | _ | _) <;> exact z
end
end OEXK
end PySem
namespace MP
open PySem PySem.Spec PyProof.Rows L2
/-- how __init__ takes what is given: n by position, ks by name -/
def IniB (fd : FuncData) (fs ks : List Str) (n : Nat) (pm : {α : Type} → List α → List α → List α) : Prop :=
  ∀ (s : Shared) (self : Value) (us ws : List Value), us.length = n → ws.length = ks.length → BindsTo s fd ⟨self :: us, ks.zip ws⟩ ((("self" : Str) :: fs).zip (self :: pm us ws))
/-- an own error's class, made as a value -/
structure OkV (P : Program) (w : World) (K : PySem.W.Frag) (mg : Str → Option Value) (base : Heap) (x : Str) (fs ks : List Str) (n : Nat) (pm : {α : Type} → List α → List α → List α) : Prop where
  gm : mg x = some (.ref (He.ga K x))
  er : ErrK K x fs
  pp : Perm n ks.length pm
  ex : ∃ fd, FnOk P w K mg base CX0 1 (He.ma K (He.ga K x) "__init__") fd ("self" :: fs) (spIni (He.ga K x) fs) ∧ IniB fd fs ks n pm
def eErr (x : Str) (fs : List Str) (n m : Nat) (pm : List D → List D → List D) (ra rk : EvA) : Ev := fun ρ S => (ra ρ S).bind fun ds S1 => (rk ρ S1).bind fun ks S2 =>
  if (ds.length = n ∧ ks.length = m) ∧ (pm ds ks).length = fs.length ∧ n ≤ 1000 then .ok (.err x fs.reverse (pm ds ks).reverse) S2 else .stuck
section
variable {X : Cx} {c : Cz} {W : WX} {a : Expr} {ea : Ev} {pos : Pos} {es : List Expr} {ra rk : EvA} {x : Str} {p : Pos} {fs ks : List Str} {n : Nat} {pm : {α : Type} → List α → List α → List α}
theorem run_err {pins : List (Addr × Obj)} {σ : St} {H : Hp} {s : Shared} {Q : VK} {us ws : List Value} {vs zs : List V} (T : OkV X.prog X.w X.K X.mg X.base x fs ks n pm) (hr : Room 2 X.A) (I : Inv X pins σ H s) (r : Vals vs us) (rz : Vals zs ws) (l1 : vs.length = n) (l2 : zs.length = ks.length)
    (l3 : (pm vs zs).length = fs.length) (hn : n ≤ 1000)
    (h : ∀ (a d : Addr) (H' : Hp), H a = none → H d = none → d ≠ a → H' a = some (exo a (He.ga X.K x) (some d)) → H' d = some (exd d (fs.reverse.zip (pm vs zs).reverse)) → (∀ b o, H b = some o → H' b = some o) → Q (.ref a) H') :
    wpAny (model X.prog X.w) X.A (call (.ref (He.ga X.K x)) us (ks.zip ws)) (EP X pins σ Q) X.xe s := by
  obtain ⟨gm, er, pp, fd, F1, hb⟩ := T
  have iC := er.iC
  have tI := er.tI
  obtain ⟨nm, q, N, bs, bm, sn, sub, ab, col, dd, k0, k1, k2, k3, k5, hC, hbm⟩ := er.ox.cls
  obtain ⟨hp, g, dr, tk, os⟩ := s
  have hsz : hp.objs.size ≤ hp.objs.size + 1 := Nat.le_succ _
  have hn1 : H (hp.objs.size + 1) = none := I.hok.fresh hsz
  have kk : ∀ b o, hp.get? b = some o → ((hp.push (PySem.W.kdv_tup us)).push (PySem.HandSPX.excO (He.ga X.K x) hp.objs.size)).get? b = some o := fun b o e => Heap.get?_push_of_some _ (Heap.get?_push_of_some _ e)
  have hget : ((hp.push (PySem.W.kdv_tup us)).push (PySem.HandSPX.excO (He.ga X.K x) hp.objs.size)).get? (hp.objs.size + 1) = some (PySem.HandSPX.excO (He.ga X.K x) hp.objs.size) := by heap_get
  have I2 : Inv X pins σ (upd H (hp.objs.size + 1) (exo (hp.objs.size + 1) (He.ga X.K x) none)) ⟨(hp.push (PySem.W.kdv_tup us)).push (PySem.HandSPX.excO (He.ga X.K x) hp.objs.size), g, dr, tk, os⟩ :=
    I.laid (t' := tk) (a := hp.objs.size + 1) (o := exo (hp.objs.size + 1) (He.ga X.K x) none) (h' := (hp.push (PySem.W.kdv_tup us)).push (PySem.HandSPX.excO (He.ga X.K x) hp.objs.size)) kk hsz (exo_ok hget)
  have r2 : Vals (V.ref (hp.objs.size + 1) :: pm vs zs) (Value.ref (hp.objs.size + 1) :: pm us ws) := .cons rfl (pp.vals l1 l2 r rz)
  have hq : spIni (He.ga X.K x) fs (V.ref (hp.objs.size + 1) :: pm vs zs) (upd H (hp.objs.size + 1) (exo (hp.objs.size + 1) (He.ga X.K x) none)) (fun v H2 => v = .non ∧ Q (.ref (hp.objs.size + 1)) H2) (fun _ _ _ => False) :=
    ⟨_, _, rfl, l3, upd_same, fun d H' hd hda hx hdx kp => ⟨rfl, h _ d H' hn1 (by rw [← hd, upd_ne hda]) hda hx hdx fun b o hbo => kp b o (ne_of_none hbo hn1) (by rw [upd_ne (ne_of_none hbo hn1)]; exact hbo)⟩⟩
  have hus : us.length ≤ sizeLine := by
    rw [← Paired.length r, sizeLine_eq]
    omega
  refine wpAny_call (PySem.OEXK.call_ownK F.excBase_ValueError (fun Y => PySem.HandSPX.refsVE_contains Y bm hbm) (I.kIn _ _ hC) (PySem.W.looks_findIn I.kIn iC) (fun self => PySem.W.bind_fn I.kIn self tI) hus
    (codeAny_mono (F1.run _ X.stack _ _ ⟨Value.ref (hp.objs.size + 1) :: us, ks.zip ws⟩ (Value.ref (hp.objs.size + 1) :: pm us ws) _ _ (fun _ _ _ => False) (hr.make (He.ga X.K x) us (ks.zip ws)) (I2.env0.make (He.ga X.K x) us (ks.zip ws)) (hb _ _ us ws (r.length.symm.trans l1) (rz.length.symm.trans l2)) r2 hq) fun r s' hq' => ?_))
  cases r with
  | error er => exact pass0 pins σ _ _ er s' I2 hq'
  | ok fl =>
    cases fl with
    | ret u =>
      obtain ⟨v, H', I3, rv, ev, q3⟩ := I2.after hq'
      subst ev
      exact ⟨rv, ⟨V.ref (hp.objs.size + 1), H', I3, rfl, q3⟩⟩
    | next => exact False.elim hq'
    | brk => exact False.elim hq'
    | cont => exact False.elim hq'
/-- the new error, told in the store -/
theorem err_out {H : Hp} {φ : List Addr} {S : Sto} {vs : List V} {ds : List D} {Q : VK} {E : XK} (T : ErrK X.K x fs) (gm : c.mg x = some (.ref (He.ga X.K x))) (rs : RepS c H φ S) (rd : RepL c H φ ds vs) (hl : vs.length = fs.length) (o : Out c H φ (RepV c) (.ok (.err x fs.reverse ds.reverse) S) Q E)
    (a d : Addr) (H' : Hp) (ha : H a = none) (hd : H d = none) (hda : d ≠ a) (hx : H' a = some (exo a (He.ga X.K x) (some d))) (hdx : H' d = some (exd d (fs.reverse.zip vs.reverse))) (kp : ∀ b o, H b = some o → H' b = some o) : Q (.ref a) H' := by
  obtain ⟨s2, e2⟩ := rs.keep kp
  refine o φ H' (.ref a) e2 s2 ?_
  unfold RepV
  exact ⟨a, He.ga X.K x, d, vs.reverse, rfl, gm, hx, hdx, by simp [hl], RepL.reverse (RepL.ext rs.ls e2 _ _ rd)⟩
theorem me_errV {kws : List Keyword} (T : OkV X.prog X.w X.K X.mg X.base x fs ks n pm) (hr : Room 2 X.A) (ha : MA X c W (a :: es) ra) (hkw : MK X c W kws rk) (hg : Gl X x := by rfl) (hall : (backToKw pos (keywordEach kws X.env)).all (·.1.isSome) = true := by rfl) (hks : (backToKw pos (keywordEach kws X.env)).filterMap (·.1) = ks := by rfl)
    (hdb : (x == ("__debug__" : Str)) = false := by decide) (he : starEach (a :: es) X.env = (false, eval a X.env) :: starEach es X.env := by rfl)
    (hpl : ((backTo pos (starEach (a :: es) X.env)).any (·.1) || (backToKw pos (keywordEach kws X.env)).any (·.1.isNone)) = false := by rfl) :
    ME X c W (.Call (.Name x p) (a :: es) kws pos) (eErr x fs n ks.length pm ra rk) := fun sh => by
  constructor
  intro pins s σ H Q I ⟨φ, ρ, S, re, rs, o⟩
  apply wpAny_Call_Name_kw (ld_glob I hg T.gm ?_ hdb)
  apply PySem.W.callWith_KW (h₀ := X.base) I.ok.mod.kin T.er.ox.kC hall (thn ((ha sh).run pos pins s σ H (fun vs H1 => (TAm c W rk) σ H1 fun zs H2 => (vs.length = n ∧ zs.length = ks.length) ∧ (pm vs zs).length = fs.length ∧ n ≤ 1000 ∧
    ∀ (a d : Addr) (H' : Hp), H2 a = none → H2 d = none → d ≠ a → H' a = some (exo a (He.ga X.K x) (some d)) → H' d = some (exd d (fs.reverse.zip (pm vs zs).reverse)) → (∀ b o, H2 b = some o → H' b = some o) → Q (.ref a) H') I ?_) ?_) hpl he
  · refine ⟨φ, ρ, S, re, rs, Out.bind o fun xs S1 φ1 H1 vs e1 s1 r1 o1 => ?_⟩
    refine ⟨φ1, ρ, S1, re.ext rs e1, s1, Out.bind o1 fun ys S2 φ2 H2 zs e2 s2 r2 o2 => ?_⟩
    split at o2
    · rename_i hl
      have l1 : vs.length = n := by rw [← r1.length]; exact hl.1.1
      have l2 : zs.length = ks.length := by rw [← r2.length]; exact hl.1.2
      have r3 := T.pp.rep l1 l2 (RepL.ext s1.ls e2 _ _ r1) r2
      have l3 : (pm vs zs).length = fs.length := by rw [← r3.length]; exact hl.2.1
      exact ⟨⟨l1, l2⟩, l3, hl.2.2, err_out T.er (by rw [sh.mm]; exact T.gm) s2 r3 l3 o2⟩
    · exact o2.elim
  · rintro us s1 ⟨vs, H1, I1, r, q⟩
    apply thn ((hkw sh).run pos pins s1 σ H1 _ I1 q)
    rintro ws s2 ⟨zs, H2, I2, rz, ⟨l1, l2⟩, l3, hn, q2⟩
    refine ⟨I2.kIn, ?_⟩
    rw [hks]
    exact run_err T hr I2 r rz l1 l2 l3 hn q2
theorem me_errV0 {kws : List Keyword} (T : OkV X.prog X.w X.K X.mg X.base x fs ks 0 pm) (hr : Room 2 X.A) (hkw : MK X c W kws rk) (hg : Gl X x := by rfl) (hall : (backToKw pos (keywordEach kws X.env)).all (·.1.isSome) = true := by rfl) (hks : (backToKw pos (keywordEach kws X.env)).filterMap (·.1) = ks := by rfl)
    (hdb : (x == ("__debug__" : Str)) = false := by decide)
    (hpl : ((backTo pos (starEach [] X.env)).any (·.1) || (backToKw pos (keywordEach kws X.env)).any (·.1.isNone)) = false := by rfl) :
    ME X c W (.Call (.Name x p) [] kws pos) (eErr x fs 0 ks.length pm aNil rk) := fun sh => by
  constructor
  intro pins s σ H Q I ⟨φ, ρ, S, re, rs, o⟩
  apply wpAny_Call_Name_kw (ld_glob I hg T.gm ?_ hdb)
  apply PySem.W.callWith_KW0 (h₀ := X.base) I.ok.mod.kin T.er.ox.kC hall ?_ hpl
  have o : Out c H φ (RepV c) ((rk ρ S).bind fun ks' S2 => if (([] : List D).length = 0 ∧ ks'.length = ks.length) ∧ (pm [] ks').length = fs.length ∧ 0 ≤ 1000 then .ok (.err x fs.reverse (pm [] ks').reverse) S2 else .stuck) Q (fun cls d H' => W cls d σ H') := o
  apply thn ((hkw sh).run pos pins s σ H (fun zs H2 => zs.length = ks.length ∧ (pm [] zs).length = fs.length ∧
    ∀ (a d : Addr) (H' : Hp), H2 a = none → H2 d = none → d ≠ a → H' a = some (exo a (He.ga X.K x) (some d)) → H' d = some (exd d (fs.reverse.zip (pm [] zs).reverse)) → (∀ b o, H2 b = some o → H' b = some o) → Q (.ref a) H') I ?_) ?_
  · refine ⟨φ, ρ, S, re, rs, Out.bind o fun ys S2 φ2 H2 zs e2 s2 r2 o2 => ?_⟩
    split at o2
    · rename_i hl
      have l2 : zs.length = ks.length := by rw [← r2.length]; exact hl.1.2
      have r3 := T.pp.rep (c := c) (H := H2) (φ := φ2) (ds := []) (vs := []) rfl l2 .nil r2
      have l3 : (pm [] zs).length = fs.length := by rw [← r3.length]; exact hl.2.1
      exact ⟨l2, l3, err_out T.er (by rw [sh.mm]; exact T.gm) s2 r3 l3 o2⟩
    · exact o2.elim
  · rintro ws s2 ⟨zs, H2, I2, rz, l2, l3, q2⟩
    refine ⟨I2.kIn, ?_⟩
    rw [hks]
    exact run_err T hr I2 .nil rz rfl l2 l3 (by omega) q2
end
end MP
end
section
set_option Elab.async false
set_option linter.all false
set_option maxRecDepth 100000
set_option maxHeartbeats 4000000
/-! MPX: isinstance and fields of own errors held as values, or caught and handed on. -/
namespace MP
open PySem PySem.Spec PyProof.Rows L2
/-- what is caught is pinned -/
def Pinned (X : Cx) (c : Cz) : Prop := ∀ a cls d, c.xc = some (a, cls, d) → ∃ oe, (a, oe) ∈ X.pn ∧ Zc cls (some d) oe ∧ ∃ vs, oe.data = .fields vs
theorem pinned_none {X : Cx} {K : PySem.W.Frag} {mg : Str → Option Value} : Pinned X ⟨K, mg, none⟩ := fun a cls d h => by cases h
/-- the instance at a, its dict -/
def InsF (h : Heap) (a C : Addr) (fs : List (Str × V)) : Prop := ∃ (oe od : Obj) (mA : Str → Option Value), PySem.W.InstAt h a oe C (some od) ∧ (∀ n, PySem.W.lookIn n od = some (mA n)) ∧ ∀ f, RelO (fs.lookup f) (mA f)
section
variable {X : Cx} {c : Cz} {W : WX} {a b d : Expr} {ea eb ed : Ev} {pos : Pos} {es : List Expr} {ra : EvA} {x : Str} {p : Pos}
theorem ins_err {pins : List (Addr × Obj)} {σ : St} {H : Hp} {s : Shared} {a C d : Addr} {fs : List (Str × V)} (I : Inv X pins σ H s) (e1 : H a = some (exo a C (some d))) (e2 : H d = some (exd d fs)) : InsF s.heap a C fs := by
  obtain ⟨t1, g⟩ := exo_at I.hok e1
  obtain ⟨mA, hns, rel⟩ := exd_at I.hok e2
  obtain ⟨od, ho, hl⟩ := lookIn_ns hns
  exact ⟨_, od, mA, ⟨g, rfl, rfl, ho⟩, hl, rel⟩
theorem ins_pin {pins : List (Addr × Obj)} {σ : St} {H : Hp} {s : Shared} {a C d : Addr} {oe : Obj} {fs : List (Str × V)} (I : Inv X pins σ H s) (hp : (a, oe) ∈ X.pn) (hz : Zc (.ref C) (some d) oe) (hf : ∃ vs, oe.data = .fields vs) (e2 : H d = some (.xd fs)) : InsF s.heap a C fs := by
  obtain ⟨g, _⟩ := I.pin (a, oe) (List.mem_append.mpr (.inl hp))
  obtain ⟨us, hu⟩ := hf
  have ok : ObjOk X.prog X.w H s.heap d (.xd fs) := I.hok d _ e2
  obtain ⟨mA, hns, hr⟩ := ok
  obtain ⟨od, ho, hl⟩ := lookIn_ns hns
  exact ⟨oe, od, mA, ⟨g, hz.1, by unfold PySem.W.notCls; rw [hu] <;> rfl, by rw [hz.2]; exact ho⟩, hl, hr⟩
def rIsV (X : Cx) : List V → Hp → VK → Prop := fun us H Q => ∃ (a C : Addr) (t : V) (tv : Value) (k : Bool), us = [.ref a, t] ∧ (∀ u, RelV t u → u = tv) ∧ (∀ pins s σ, Inv X pins σ H s → ∃ fs, InsF s.heap a C fs) ∧ ExcC X.K C ∧ PySem.W.kitOne X.K (.ref C) tv = some k ∧ Q (.bl k) H
theorem call_isV : CallR X (.builtin "isinstance") (rIsV X) := by
  intro pins s σ H us vs Q I r h
  obtain ⟨a, C, t, tv, k, rfl, ht, hi, T, hk, q⟩ := h
  cases r with
  | cons r1 rr =>
    cases rr with
    | cons r2 rr =>
      cases rr
      cases r1
      have e := ht _ r2
      subst e
      obtain ⟨fs, oe, od, mA, J, _, _⟩ := hi pins s σ I
      exact PySem.W.kia_one (kit_exc T) I.kIn J hk (fun y => nomatch y) fun tk => ⟨.bl k, H, I.tok tk, rfl, q⟩
/-- which of some classes are kinds of tv -/
inductive TabOk (X : Cx) (tv : Value) : List (Str × Bool) → Prop
  | nil : TabOk X tv []
  | cons {x : Str} {C : Addr} {k : Bool} {r : List (Str × Bool)} (hm : X.mg x = some (.ref C)) (T : ExcC X.K C) (hk : PySem.W.kitOne X.K (.ref C) tv = some k) (h : TabOk X tv r) : TabOk X tv ((x, k) :: r)
theorem TabOk.at_ {tv : Value} {tab : List (Str × Bool)} (h : TabOk X tv tab) {m : Str} {k : Bool} (e : decL tab m = some k) : ∃ C, X.mg m = some (.ref C) ∧ ExcC X.K C ∧ PySem.W.kitOne X.K (.ref C) tv = some k := by
  induction h with
  | nil => cases e
  | @cons x C k0 r hm T hk h ih =>
    unfold decL at e
    split at e
    · rename_i hx
      subst hx
      cases e
      exact ⟨C, hm, T, hk⟩
    · exact ih e
def dIsV (tab : List (Str × Bool)) : D → Sto → Option (D × Sto) := fun d S => match d with
  | .err m _ _ => (decL tab m).map fun k => (.bl k, S)
  | .exn m _ _ => (decL tab m).map fun k => (.bl k, S)
  | _ => none
theorem me_isV {y : Str} {py : Pos} {t : V} {tv : Value} {tab : List (Str × Bool)} (hp : Pinned X c) (T : TabOk X tv tab) (hm : X.mg "isinstance" = none) (ht : PE X (.Name y py) (tC t)) (htv : ∀ u, RelV t u → u = tv) (h : ME X c W a ea) (hg : Gl X "isinstance" := by rfl)
    (he1 : starEach [a, .Name y py] X.env = (false, eval a X.env) :: starEach [.Name y py] X.env := by rfl) (he2 : starEach [.Name y py] X.env = (false, eval (.Name y py) X.env) :: starEach [] X.env := by rfl) (hpl : (backTo pos (starEach [.Name y py] X.env)).any (·.1) = false := by rfl) :
    ME X c W (.Call (.Name "isinstance" p) [a, .Name y py] [] pos) (eU (dIsV tab) ea) := fun s => by
  refine PE.imp (pe_callB call_isV hg hm (by decide +kernel) (pa_cons (h s) (pa_cons ht pa_nil he2) he1) (by decide) (by decide) he1 hpl) fun σ H Q ⟨φ, ρ, S, re, rs, o⟩ => ?_
  refine ⟨φ, ρ, S, re, rs, Out.bind o fun x S1 φ1 H1 v e1 s1 r1 o1 => ?_⟩
  replace o1 := OutO.of o1
  cases x <;> first
    | exact False.elim o1
    | skip
  · rename_i m ns ds
    unfold RepV at r1
    obtain ⟨a', cls', d', vs, rfl, hx, hmg, hd, hl, rl⟩ := r1
    unfold dIsV at o1
    cases hq : decL tab m with
    | none => simp only [hq] at o1; exact o1.elim
    | some k =>
      simp only [hq, Option.map_some] at o1
      obtain ⟨C, g1, g2, g3⟩ := T.at_ hq
      rw [s.mm, g1] at hmg
      cases hmg
      obtain ⟨oe, p1, p2, p3⟩ := hp _ _ _ hx
      exact ⟨a', _, t, tv, k, rfl, htv, fun pins s0 σ0 I => ⟨_, ins_pin I p1 p2 p3 hd⟩, g2, g3, o1 φ1 H1 _ (.refl _ _) s1 rep_bl⟩
  · rename_i m ns ds
    unfold RepV at r1
    obtain ⟨a', C', d', vs, rfl, hmg, h1, h2, hl, rl⟩ := r1
    unfold dIsV at o1
    cases hq : decL tab m with
    | none => simp only [hq] at o1; exact o1.elim
    | some k =>
      simp only [hq, Option.map_some] at o1
      obtain ⟨C, g1, g2, g3⟩ := T.at_ hq
      rw [s.mm, g1] at hmg
      cases hmg
      exact ⟨a', _, t, tv, k, rfl, htv, fun pins s0 σ0 I => ⟨_, ins_err I h1 h2⟩, g2, g3, o1 φ1 H1 _ (.refl _ _) s1 rep_bl⟩
/-- some classes of errors with their fields -/
inductive FldOk (X : Cx) : List (Str × List Str) → Prop
  | nil : FldOk X []
  | cons {x : Str} {fs : List Str} {r : List (Str × List Str)} (hm : X.mg x = some (.ref (He.ga X.K x))) (T : ErrK X.K x fs) (h : FldOk X r) : FldOk X ((x, fs) :: r)
def fldsOf : List (Str × List Str) → Str → Option (List Str)
  | [], _ => none
  | (x, fs) :: r, m => if m = x then some fs else fldsOf r m
theorem FldOk.at_ {tab : List (Str × List Str)} (h : FldOk X tab) {m : Str} {fs : List Str} (e : fldsOf tab m = some fs) : X.mg m = some (.ref (He.ga X.K m)) ∧ ErrK X.K m fs := by
  induction h with
  | nil => cases e
  | @cons x fs0 r hm T h ih =>
    unfold fldsOf at e
    split at e
    · rename_i hx
      subst hx
      cases e
      exact ⟨hm, T⟩
    · exact ih e
/-- e.f, e an error that is a value -/
def eXv (tab : List (Str × List Str)) (f : Str) (e : Ev) : Ev := fun ρ S => (e ρ S).bind fun d S1 => match d with
  | .err m ns ds => match fldsOf tab m with
    | some fs => if f ∈ fs then (match fieldOf f ns ds with
      | some d => .ok d S1
      | none => .stuck) else .stuck
    | none => .stuck
  | _ => .stuck
def tXv (X : Cx) (n : Str) (te : TE) : TE := fun σ H Q => te σ H fun x H1 => ∃ (a C : Addr) (fs : List (Str × V)) (v : V), x = .ref a ∧ (∀ pins s σ, Inv X pins σ H1 s → InsF s.heap a C fs) ∧ XfC X.K C ∧ PySem.W.findIn X.K (.ref C) n = some none ∧ fs.lookup n = some v ∧ Q v H1
theorem pe_xv {e : Expr} {te : TE} {n : Str} (he : PE X e te) (hb : attributeBase e n X.env (eval e X.env) = eval e X.env := by rfl) : PE X (.Attribute e n pos) (tXv X n te) := by
  refine ⟨fun pins s σ H Q I h => ?_⟩
  refine attr_of hb (thn (he.run pins s σ H _ I h) fun u s1 hh => ?_)
  obtain ⟨x, H1, I1, rx, a, C, fs, v, ex, hi, T, hno, l, q⟩ := hh
  subst ex
  obtain rfl : u = Value.ref a := rx
  obtain ⟨oe, od, mA, J, hl, hr⟩ := hi _ _ _ I1
  obtain ⟨u, hu, ru⟩ := RelO.some_of (v := v) (o := mA n) (by rw [← l]; exact hr n)
  exact PySem.HandSPX.exc_get I1.kIn J T.ga T.gg T.exC (PySem.W.findObj_own T.hdC hno rfl (by rw [hl, hu])) (handed_of ru) ⟨v, H1, I1.tok _, ru, q⟩
theorem me_xv {tab : List (Str × List Str)} {f : Str} (T : FldOk X tab) (he : ME X c W a ea) (hb : attributeBase a f X.env (eval a X.env) = eval a X.env := by rfl) : ME X c W (.Attribute a f pos) (eXv tab f ea) := fun s => by
  refine PE.imp (pe_xv (he s) hb) fun σ H Q ⟨φ, ρ, S, re, rs, o⟩ => ?_
  refine ⟨φ, ρ, S, re, rs, Out.bind o fun x S1 φ1 H1 v e1 s1 r1 o1 => ?_⟩
  cases x <;> first
    | exact False.elim o1
    | skip
  rename_i m ns ds
  unfold RepV at r1
  obtain ⟨a', C', d', vs, rfl, hmg, h1, h2, hl, rl⟩ := r1
  dsimp only at o1
  split at o1
  · rename_i fs hq
    split at o1
    · rename_i hf
      obtain ⟨g1, g2⟩ := T.at_ hq
      rw [s.mm, g1] at hmg
      cases hmg
      split at o1
      · rename_i d hd
        obtain ⟨w, k1, k2⟩ := fieldOf_at hl rl hd
        exact ⟨a', _, _, w, rfl, fun pins s0 σ0 I => ins_err I h1 h2, g2.xf, g2.no f hf, k1, o1 φ1 H1 _ (.refl _ _) s1 k2⟩
      · exact o1.elim
    · exact o1.elim
  · exact o1.elim
end
end MP
end
section
set_option Elab.async false
set_option linter.all false
set_option maxRecDepth 100000
set_option maxHeartbeats 4000000
/-! MPY: a def that is handed the caught error. -/
namespace MP
open PySem PySem.Spec PyProof.Rows L2
/-- as FnC, the caught error pinned -/
def FnP (P : Program) (w : World) (K : PySem.W.Frag) (mg : Str → Option Value) (base : Heap) (k : Nat) (f : Addr) (fd : FuncData) (ps : List Str) (rf : List D → Sto → Res D) : Prop :=
  ∀ (A : Around) (outer : List PySem.Env) (s : Shared) (H : Hp) (args : Args) (us : List Value) (vs : List V) (Q : VK) (p : Addr × Obj) (cls : Value) (d : Addr), RoomC k A → L2H.PinOk outer H s p → Zc cls (some d) p.2 → (∃ vs, p.2.data = .fields vs) → Env0 P w K mg base A outer s H → BindsTo s fd args (ps.zip us) → Vals vs us →
    spEv ⟨K, mg, some (p.1, cls, d)⟩ ps.length rf vs H Q E0 → codeAny (model P w) A (.call (.ref f) args) (CR CX0 outer P w H s Q E0) s
def cxP (P : Program) (w : World) (K : PySem.W.Frag) (mg : Str → Option Value) (base : Heap) (N : List Str) (qual : Str) (scope : Scope) (f : Addr) (cd : Value) (A : Around) (outer : List PySem.Env) (s : Shared) (H : Hp) (p : Addr × Obj) : Cx :=
  { cxC P w K mg base N qual scope f cd A outer s H with pn := [p] }
theorem inv_startP {P : Program} {w : World} {K : PySem.W.Frag} {mg : Str → Option Value} {base : Heap} {N ps : List Str} {qual : Str} {scope : Scope} {f : Addr} {cd : Value} {A : Around} {outer : List PySem.Env} {s s1 : Shared} {H : Hp} {us : List Value} {vs : List V}
    (S : FnScope N ps scope) {p : Addr × Obj} (hpin : L2H.PinOk outer H s p) (e0 : Env0 P w K mg base A outer s H) (hl : vs.length = ps.length) (r : Vals vs us)
    (x : InCallC s s.heap.objs.size (bindL (envOfC qual scope s.heap.objs.size f cd).kindOf (ps.zip us) fun _ => none) (cellsFrom (s.heap.objs.size + 1) scope.names []) (bindC (envOfC qual scope s.heap.objs.size f cd).kindOf (ps.zip us) fun _ => none) s1) :
    Inv (cxP P w K mg base N qual scope f cd A outer s H p) [] (L2.start N vs) H s1 := by
  have J : Inv (L2H.cxH CX0 P w K mg base N qual scope f cd A outer s H E0 p) [] (L2.start N vs) H s1 := L2H.inv_startH S hpin e0 hl r x
  have ok := J.ok
  exact ⟨⟨ok.mod, ok.kind, ok.glob, ok.blt, ok.above, ok.inj, ok.has, ok.cab, (fun z => Bool.noConfusion (show false = true from z)), ok.frames, ok.stk, ok.exf, ok.bs, ok.bsz, ok.noex, ok.exfs, ok.funs, ok.frf⟩, J.os, J.bare, J.base, J.loc, J.cell, J.free, J.freeC, J.pin, J.hok, J.len⟩
theorem def_okP {P : Program} {w : World} {K : PySem.W.Frag} {mg : Str → Option Value} {base : Heap} {x qual : Str} {st : Stmt} {f : Addr} {fd : FuncData} {N ps : List Str} {k : Nat} {ev : Es} (F : Fun K x qual st f fd) (S : FnScope N ps (defScope st))
    (hb : ∀ (cdv : Value) (A : Around) (outer : List PySem.Env) (s : Shared) (H : Hp) (p : Addr × Obj) (cls : Value) (d : Addr), Zc cls (some d) p.2 → (∃ vs, p.2.data = .fields vs) → RoomC k (A.deeper (envOfC qual (defScope st) s.heap.objs.size f cdv)) → MSs (cxP P w K mg base N qual (defScope st) f cdv A outer s H p) ⟨K, mg, some (p.1, cls, d)⟩ W0 (defBody st) ev) :
    FnP P w K mg base (k + 1) f fd ps (runDef N.length ev) := by
  obtain ⟨oc, od, kV, doc, pm, an, cdv, ct, osl, rfl, lk, hcd⟩ := F.ex
  intro A outer s H args us vs Q p cls d hr hpin hz hf e0 hbd r hsp
  have hl : vs.length = ps.length := hsp.1
  have stays : ∀ b o, base.get? b = some o → s.heap.get? b = some o := fun b o e => (e0.bs b o e).1
  have KX : K.In s.heap := e0.mod.kin.keeps stays
  have kinds : ∀ y ∈ ps.zip us, (defScope st).names.lookup y.1 = some .local ∨ ((defScope st).names.lookup y.1 = some .cell ∧ ((cellsFrom (s.heap.objs.size + 1) (defScope st).names []).lookup y.1).isSome = true) := by
    rintro ⟨n, v⟩ hy
    exact (S.par n (List.of_mem_zip hy).1).imp id fun q => ⟨q, PySem.W.cellsFrom_some _ _ _ (.inl q)⟩
  have dpt : A.depth < recursionLimit := by have := hr.dp; omega
  refine codeAny_call_function dpt (KX _ _ lk) rfl S.co S.gen rfl (PySem.W.codeRec_of KX hcd) (hbd _ _ _ _ (wpAny_newFunctionEnv_cells S.kind kinds fun env he s1 x => ?_))
  subst he
  refine ⟨(e0.mod.nolimit.keeps stays).keeps x.toInCall.keep, codeAny_func ?_⟩
  have ht := hb cdv A outer s H p cls d hz hf (hr.into _) ⟨rfl, rfl, takes0, PassesOwn.never, S.nd⟩
  have I := inv_startP (P := P) (w := w) (K := K) (mg := mg) (base := base) (A := A) (H := H) S hpin e0 hl r x
  obtain ⟨_, φ, ds, S0, rd, rs, o⟩ := hsp
  have o : Out ⟨K, mg, some (p.1, cls, d)⟩ H φ (RepV ⟨K, mg, some (p.1, cls, d)⟩) (flowRes (ev (begins N.length ds) S0)) Q E0 := o
  have hq : TSm ⟨K, mg, some (p.1, cls, d)⟩ W0 ev { nx := fun _ H' => Q .non H', rt := Q } (L2.start N vs) H := by
    refine ⟨φ, begins N.length ds, S0, begins_rep rd, rs, ?_⟩
    revert o
    cases ev (begins N.length ds) S0 with
    | next ρ S => intro o φ' H' σ' e s r; exact o φ' H' .non e s rep_non
    | brk ρ S => intro o; exact o.elim
    | cont ρ S => intro o; exact o.elim
    | ret d S => intro o φ' H' v e s r; exact o φ' H' v e s r
    | exc n ns ds ρ S => intro o φ' H' σ' cls dx vs e s r m1 m2 m3 m4; exact o φ' H' cls dx vs e s m1 m2 m3 m4
    | stuck => intro o; exact o.elim
  refine wpAny_mono (ht.run [] s1 (L2.start N vs) H _ I hq) (fun fl s' hs => ?_) fun e s' hs => False.elim hs
  cases fl with
  | ret u =>
    obtain ⟨v, σ', H', J, rv, q⟩ := hs
    exact ⟨v, H', J.os, J.bare, J.base, J.hok, rv, q⟩
  | next =>
    obtain ⟨σ', H', J, q⟩ := hs
    exact ⟨V.non, H', J.os, J.bare, J.base, J.hok, rfl, q⟩
  | brk =>
    obtain ⟨_, _, _, q⟩ := hs
    exact q.elim
  | cont =>
    obtain ⟨_, _, _, q⟩ := hs
    exact q.elim
theorem pinned_P {P : Program} {w : World} {K : PySem.W.Frag} {mg : Str → Option Value} {base : Heap} {N : List Str} {qual : Str} {scope : Scope} {f : Addr} {cd : Value} {A : Around} {outer : List PySem.Env} {s : Shared} {H : Hp} {p : Addr × Obj} {cls : Value} {d : Addr} (hz : Zc cls (some d) p.2) (hf : ∃ vs, p.2.data = .fields vs) : Pinned (cxP P w K mg base N qual scope f cd A outer s H p) ⟨K, mg, some (p.1, cls, d)⟩ := fun a cls' d' h => by
  cases h
  exact ⟨p.2, List.mem_singleton.mpr rfl, hz, hf⟩
section
variable {X : Cx} {a : Expr} {es : List Expr} {ra : EvA} {x : Str} {p pos : Pos}
theorem me_callP {k : Nat} {f : Addr} {fd : FuncData} {ps : List Str} {rf : List D → Sto → Res D} {ad d : Addr} {oe : Obj} {cls : Value} (F : FnP X.prog X.w X.K X.mg X.base k f fd ps rf) (hpn : (ad, oe) ∈ X.pn) (hz : Zc cls (some d) oe) (hf : ∃ vs, oe.data = .fields vs) (hr : RoomC k X.A) (hm : X.mg x = some (.ref f)) (hk : PySem.W.keepIn X.K (.ref f) = true) (hb : Binds X.K fd ps [])
    (ha : MA X ⟨X.K, X.mg, some (ad, cls, d)⟩ W0 (a :: es) ra) (hg : Gl X x := by rfl)
    (hdb : (x == ("__debug__" : Str)) = false := by decide) (he : starEach (a :: es) X.env = (false, eval a X.env) :: starEach es X.env := by rfl) (hpl : (backTo pos (starEach es X.env)).any (·.1) = false := by rfl) :
    ME X ⟨X.K, X.mg, some (ad, cls, d)⟩ W0 (.Call (.Name x p) (a :: es) [] pos) (eCall ps.length rf ra) := fun s => by
  constructor
  intro pins s0 σ H Q I ⟨φ, ρ, S, re, rs, o⟩
  apply wpAny_Call_Name_kw (ld_glob I hg hm ?_ hdb)
  apply PySem.W.callWith_K (h₀ := X.base) I.ok.mod.kin hk (thn ((ha s).run pos pins s0 σ H (fun vs H1 => spEv ⟨X.K, X.mg, some (ad, cls, d)⟩ ps.length rf vs H1 Q E0) I ?_) ?_) he hpl
  · refine ⟨φ, ρ, S, re, rs, Out.bind o fun xs S1 φ1 H1 vs e1 s1 r1 o1 => ?_⟩
    split at o1
    · rename_i hl
      exact ⟨by rw [← r1.length]; exact hl, φ1, xs, S1, r1, s1, o1⟩
    · exact o1.elim
  · rintro us s1 ⟨vs, H1, I1, r, q⟩
    refine ⟨I1.kIn, ?_⟩
    have hl : us.length = ps.length := by rw [← r.length]; exact q.1
    have bnd := hb s1 us I1.kIn (by rw [List.append_nil]; exact hl)
    rw [List.append_nil] at bnd
    have P1 := I1.pin (ad, oe) (List.mem_append_left _ hpn)
    have hpin : L2H.PinOk X.stack H1 s1 (ad, oe) := ⟨P1.1, P1.2.1, fun hm => (List.mem_cons.mp (I1.stkSub _ hm)).elim P1.2.2.1 P1.2.2.2.1, P1.2.2.2.2⟩
    apply wpAny_call
    apply codeAny_mono (F X.A X.stack s1 H1 ⟨us, []⟩ us vs Q (ad, oe) cls d hr hpin hz hf I1.env0 bnd r q)
    intro res s' hq
    match res, hq with
    | .ok (.ret _), hq => exact I1.after hq
    | .error e, hq => exact hq.elim
end
/-- by position, then by name -/
def pmA {α : Type} (us ws : List α) : List α := us ++ ws
theorem repL_app {c : Cz} {H : Hp} {φ : List Addr} : ∀ {ds es : List D} {vs zs : List V}, RepL c H φ ds vs → RepL c H φ es zs → RepL c H φ (ds ++ es) (vs ++ zs)
  | [], es, vs, zs, h, k => by unfold RepL at h; subst h; exact k
  | d :: ds, es, vs, zs, h, k => by
    unfold RepL at h
    obtain ⟨v, vr, rfl, h1, h2⟩ := h
    show RepL c H φ (d :: (ds ++ es)) (v :: (vr ++ zs))
    unfold RepL
    exact ⟨v, vr ++ zs, rfl, h1, repL_app h2 k⟩
theorem perm_A {n m : Nat} : Perm n m (@pmA) := ⟨fun _ _ r k => r.append k, fun _ _ r k => repL_app r k⟩
section
variable {P : Program} {w : World} {K : PySem.W.Frag} {mg : Str → Option Value} {base : Heap} {k : Nat} {x q : Str} {st : Stmt} {N ps : List Str} {ev : Es} {rf : List D → Sto → Res D}
theorem iniB_of {fd : FuncData} {f : Addr} {fs ks : List Str} {n : Nat} {pm : {α : Type} → List α → List α → List α} (F : Fun K x q st f fd)
    (hk : ∀ (kV doc pm' : Value) (an : Option Addr) (cdv ct self : Value) (us ws : List Value), us.length = n → ws.length = ks.length → bindArgs (PySem.W.fnOf x q (defArgs st) (defBody st) (defScope st) .none kV doc pm' an cdv ct) ⟨self :: us, ks.zip ws⟩ = pure ((("self" : Str) :: fs).zip (self :: pm us ws))) : IniB fd fs ks n pm := by
  obtain ⟨oc, od, kV, doc, pm', an, cdv, ct, osl, rfl, lk, hcd⟩ := F.ex
  exact fun s self us ws h1 h2 => .of_eq (hk kV doc pm' an cdv ct self us ws h1 h2)
structure OkP (P : Program) (w : World) (K : PySem.W.Frag) (mg : Str → Option Value) (base : Heap) (k : Nat) (x : Str) (st : Stmt) (ps : List Str) (rf : List D → Sto → Res D) : Prop where
  gm : mg x = some (.ref (He.ga K x))
  ex : ∃ fd, Fun K x x st (He.ga K x) fd ∧ FnP P w K mg base k (He.ga K x) fd ps rf ∧ Binds K fd ps []
theorem okp (hg : mg x = some (.ref (He.ga K x))) (F : ∃ fd, Fun K x x st (He.ga K x) fd) (S : FnScope N ps (defScope st)) (hbind : BindOk x st ps)
    (hb : ∀ (cdv : Value) (A : Around) (outer : List PySem.Env) (s : Shared) (H : Hp) (p : Addr × Obj) (cls : Value) (d : Addr), Zc cls (some d) p.2 → (∃ vs, p.2.data = .fields vs) → RoomC k (A.deeper (envOfC x (defScope st) s.heap.objs.size (He.ga K x) cdv)) →
      MSs (cxP P w K mg base N x (defScope st) (He.ga K x) cdv A outer s H p) ⟨K, mg, some (p.1, cls, d)⟩ W0 (defBody st) ev) : OkP P w K mg base (k + 1) x st ps (runDef N.length ev) := by
  obtain ⟨fd, F⟩ := F
  exact ⟨hg, fd, F, def_okP F S hb, F.binds hbind⟩
end
section
variable {X : Cx} {a : Expr} {es : List Expr} {ra : EvA} {x : Str} {p pos : Pos} {k : Nat} {st : Stmt} {ps : List Str} {rf : List D → Sto → Res D}
theorem me_fnP {ad d : Addr} {oe : Obj} {cls : Value} (T : OkP X.prog X.w X.K X.mg X.base k x st ps rf) (hpn : (ad, oe) ∈ X.pn) (hz : Zc cls (some d) oe) (hf : ∃ vs, oe.data = .fields vs) (hr : RoomC k X.A) (ha : MA X ⟨X.K, X.mg, some (ad, cls, d)⟩ W0 (a :: es) ra) (hg : Gl X x := by rfl)
    (hdb : (x == ("__debug__" : Str)) = false := by decide) (he : starEach (a :: es) X.env = (false, eval a X.env) :: starEach es X.env := by rfl) {n : Nat} (hpl : (backTo pos (starEach es X.env)).any (·.1) = false := by rfl) (hn : ps.length = n := by rfl) :
    ME X ⟨X.K, X.mg, some (ad, cls, d)⟩ W0 (.Call (.Name x p) (a :: es) [] pos) (eCall n rf ra) := by
  subst hn
  obtain ⟨gm, fd, F, ok, bd⟩ := T
  exact me_callP ok hpn hz hf hr gm F.kp bd ha hg hdb he hpl
end
end MP
end
section
set_option Elab.async false
set_option linter.all false
set_option maxRecDepth 100000
set_option maxHeartbeats 4000000
namespace LawM
open PySem PySem.Spec PyProof.Rows L2 MP
def top (i : Nat) : Stmt := PySem.Challenge.pw_hungwall_k00_kinds_quotients_places.main.body.getD i (.Pass ⟨0, 0, 0, 0⟩)
abbrev s_is_integer : Stmt := top 15
abbrev s_is_quotient : Stmt := top 16
abbrev s_is_positive : Stmt := top 17
abbrev s__need_number : Stmt := top 20
abbrev s_is_shapes : Stmt := top 18
abbrev s_is_table : Stmt := top 19
abbrev s__need_side : Stmt := top 27
abbrev s_side_after : Stmt := top 23
abbrev s_side_opposite : Stmt := top 24
abbrev s_is_place : Stmt := top 25
abbrev s_place_letter : Stmt := top 26
abbrev s_settle : Stmt := top 29
abbrev s__need_two : Stmt := top 36
abbrev s_plus : Stmt := top 31
abbrev s_minus : Stmt := top 32
abbrev s_times : Stmt := top 33
abbrev s_over : Stmt := top 34
abbrev s_is_less : Stmt := top 35
abbrev s__law_mixed : Stmt := top 38
abbrev s__law_pool : Stmt := top 39
abbrev s__law_take : Stmt := top 40
abbrev s__law_whole : Stmt := top 41
abbrev s__law_common : Stmt := top 42
abbrev s__law_low : Stmt := top 43
abbrev s__law_quotient : Stmt := top 44
abbrev s__law_small : Stmt := top 45
abbrev s__law_great : Stmt := top 46
abbrev s__law_value : Stmt := top 47
abbrev s__law_like : Stmt := top 48
abbrev s__law_kin : Stmt := top 49
abbrev s__law_two : Stmt := top 50
abbrev s__law_single : Stmt := top 51
abbrev s__law_all_of : Stmt := top 52
abbrev s__law_reckoned : Stmt := top 53
abbrev s__law_pair : Stmt := top 54
abbrev s__law_alone : Stmt := top 55
abbrev s__law_papers : Stmt := top 56
abbrev s__law_errors : Stmt := top 57
abbrev s__law_long : Stmt := top 58
abbrev s__law_row : Stmt := top 59
abbrev s_law : Stmt := top 60
structure Ft (P : Program) (w : World) (K : PySem.W.Frag) (mg : Str → Option Value) (base : Heap) : Prop where
  fr_ValueError : mg "ValueError" = none
  fr_abs : mg "abs" = none
  fr_all : mg "all" = none
  fr_bool : mg "bool" = none
  fr_int : mg "int" = none
  fr_isinstance : mg "isinstance" = none
  fr_len : mg "len" = none
  fr_list : mg "list" = none
  fr_max : mg "max" = none
  fr_range : mg "range" = none
  fr_str : mg "str" = none
  fr_tuple : mg "tuple" = none
  bl_gcd : mg "gcd" = some (.builtin "math.gcd")
  g_is_integer : mg "is_integer" = some (.ref (He.ga K "is_integer"))
  g_is_quotient : mg "is_quotient" = some (.ref (He.ga K "is_quotient"))
  g_is_positive : mg "is_positive" = some (.ref (He.ga K "is_positive"))
  g__need_number : mg "_need_number" = some (.ref (He.ga K "_need_number"))
  g_is_shapes : mg "is_shapes" = some (.ref (He.ga K "is_shapes"))
  g_is_table : mg "is_table" = some (.ref (He.ga K "is_table"))
  g__need_side : mg "_need_side" = some (.ref (He.ga K "_need_side"))
  g_side_after : mg "side_after" = some (.ref (He.ga K "side_after"))
  g_side_opposite : mg "side_opposite" = some (.ref (He.ga K "side_opposite"))
  g_is_place : mg "is_place" = some (.ref (He.ga K "is_place"))
  g_place_letter : mg "place_letter" = some (.ref (He.ga K "place_letter"))
  g_settle : mg "settle" = some (.ref (He.ga K "settle"))
  g__need_two : mg "_need_two" = some (.ref (He.ga K "_need_two"))
  g_plus : mg "plus" = some (.ref (He.ga K "plus"))
  g_minus : mg "minus" = some (.ref (He.ga K "minus"))
  g_times : mg "times" = some (.ref (He.ga K "times"))
  g_over : mg "over" = some (.ref (He.ga K "over"))
  g_is_less : mg "is_less" = some (.ref (He.ga K "is_less"))
  g__law_mixed : mg "_law_mixed" = some (.ref (He.ga K "_law_mixed"))
  g__law_pool : mg "_law_pool" = some (.ref (He.ga K "_law_pool"))
  g__law_take : mg "_law_take" = some (.ref (He.ga K "_law_take"))
  g__law_whole : mg "_law_whole" = some (.ref (He.ga K "_law_whole"))
  g__law_common : mg "_law_common" = some (.ref (He.ga K "_law_common"))
  g__law_low : mg "_law_low" = some (.ref (He.ga K "_law_low"))
  g__law_quotient : mg "_law_quotient" = some (.ref (He.ga K "_law_quotient"))
  g__law_small : mg "_law_small" = some (.ref (He.ga K "_law_small"))
  g__law_great : mg "_law_great" = some (.ref (He.ga K "_law_great"))
  g__law_value : mg "_law_value" = some (.ref (He.ga K "_law_value"))
  g__law_like : mg "_law_like" = some (.ref (He.ga K "_law_like"))
  g__law_kin : mg "_law_kin" = some (.ref (He.ga K "_law_kin"))
  g__law_two : mg "_law_two" = some (.ref (He.ga K "_law_two"))
  g__law_single : mg "_law_single" = some (.ref (He.ga K "_law_single"))
  g__law_all_of : mg "_law_all_of" = some (.ref (He.ga K "_law_all_of"))
  g__law_reckoned : mg "_law_reckoned" = some (.ref (He.ga K "_law_reckoned"))
  g__law_pair : mg "_law_pair" = some (.ref (He.ga K "_law_pair"))
  g__law_alone : mg "_law_alone" = some (.ref (He.ga K "_law_alone"))
  g__law_papers : mg "_law_papers" = some (.ref (He.ga K "_law_papers"))
  g__law_errors : mg "_law_errors" = some (.ref (He.ga K "_law_errors"))
  g__law_long : mg "_law_long" = some (.ref (He.ga K "_law_long"))
  g__law_row : mg "_law_row" = some (.ref (He.ga K "_law_row"))
  g_law : mg "law" = some (.ref (He.ga K "law"))
  f_is_integer : ∃ fd, Fun K "is_integer" "is_integer" s_is_integer (He.ga K "is_integer") fd
  f_is_quotient : ∃ fd, Fun K "is_quotient" "is_quotient" s_is_quotient (He.ga K "is_quotient") fd
  f_is_positive : ∃ fd, Fun K "is_positive" "is_positive" s_is_positive (He.ga K "is_positive") fd
  f__need_number : ∃ fd, Fun K "_need_number" "_need_number" s__need_number (He.ga K "_need_number") fd
  f_is_shapes : ∃ fd, Fun K "is_shapes" "is_shapes" s_is_shapes (He.ga K "is_shapes") fd
  f_is_table : ∃ fd, Fun K "is_table" "is_table" s_is_table (He.ga K "is_table") fd
  f__need_side : ∃ fd, Fun K "_need_side" "_need_side" s__need_side (He.ga K "_need_side") fd
  f_side_after : ∃ fd, Fun K "side_after" "side_after" s_side_after (He.ga K "side_after") fd
  f_side_opposite : ∃ fd, Fun K "side_opposite" "side_opposite" s_side_opposite (He.ga K "side_opposite") fd
  f_is_place : ∃ fd, Fun K "is_place" "is_place" s_is_place (He.ga K "is_place") fd
  f_place_letter : ∃ fd, Fun K "place_letter" "place_letter" s_place_letter (He.ga K "place_letter") fd
  f_settle : ∃ fd, Fun K "settle" "settle" s_settle (He.ga K "settle") fd
  f__need_two : ∃ fd, Fun K "_need_two" "_need_two" s__need_two (He.ga K "_need_two") fd
  f_plus : ∃ fd, Fun K "plus" "plus" s_plus (He.ga K "plus") fd
  f_minus : ∃ fd, Fun K "minus" "minus" s_minus (He.ga K "minus") fd
  f_times : ∃ fd, Fun K "times" "times" s_times (He.ga K "times") fd
  f_over : ∃ fd, Fun K "over" "over" s_over (He.ga K "over") fd
  f_is_less : ∃ fd, Fun K "is_less" "is_less" s_is_less (He.ga K "is_less") fd
  f__law_mixed : ∃ fd, Fun K "_law_mixed" "_law_mixed" s__law_mixed (He.ga K "_law_mixed") fd
  f__law_pool : ∃ fd, Fun K "_law_pool" "_law_pool" s__law_pool (He.ga K "_law_pool") fd
  f__law_take : ∃ fd, Fun K "_law_take" "_law_take" s__law_take (He.ga K "_law_take") fd
  f__law_whole : ∃ fd, Fun K "_law_whole" "_law_whole" s__law_whole (He.ga K "_law_whole") fd
  f__law_common : ∃ fd, Fun K "_law_common" "_law_common" s__law_common (He.ga K "_law_common") fd
  f__law_low : ∃ fd, Fun K "_law_low" "_law_low" s__law_low (He.ga K "_law_low") fd
  f__law_quotient : ∃ fd, Fun K "_law_quotient" "_law_quotient" s__law_quotient (He.ga K "_law_quotient") fd
  f__law_small : ∃ fd, Fun K "_law_small" "_law_small" s__law_small (He.ga K "_law_small") fd
  f__law_great : ∃ fd, Fun K "_law_great" "_law_great" s__law_great (He.ga K "_law_great") fd
  f__law_value : ∃ fd, Fun K "_law_value" "_law_value" s__law_value (He.ga K "_law_value") fd
  f__law_like : ∃ fd, Fun K "_law_like" "_law_like" s__law_like (He.ga K "_law_like") fd
  f__law_kin : ∃ fd, Fun K "_law_kin" "_law_kin" s__law_kin (He.ga K "_law_kin") fd
  f__law_two : ∃ fd, Fun K "_law_two" "_law_two" s__law_two (He.ga K "_law_two") fd
  f__law_single : ∃ fd, Fun K "_law_single" "_law_single" s__law_single (He.ga K "_law_single") fd
  f__law_all_of : ∃ fd, Fun K "_law_all_of" "_law_all_of" s__law_all_of (He.ga K "_law_all_of") fd
  f__law_reckoned : ∃ fd, Fun K "_law_reckoned" "_law_reckoned" s__law_reckoned (He.ga K "_law_reckoned") fd
  f__law_pair : ∃ fd, Fun K "_law_pair" "_law_pair" s__law_pair (He.ga K "_law_pair") fd
  f__law_alone : ∃ fd, Fun K "_law_alone" "_law_alone" s__law_alone (He.ga K "_law_alone") fd
  f__law_papers : ∃ fd, Fun K "_law_papers" "_law_papers" s__law_papers (He.ga K "_law_papers") fd
  f__law_errors : ∃ fd, Fun K "_law_errors" "_law_errors" s__law_errors (He.ga K "_law_errors") fd
  f__law_long : ∃ fd, Fun K "_law_long" "_law_long" s__law_long (He.ga K "_law_long") fd
  f__law_row : ∃ fd, Fun K "_law_row" "_law_row" s__law_row (He.ga K "_law_row") fd
  f_law : ∃ fd, Fun K "law" "law" s_law (He.ga K "law") fd
  k_LETTERS : CstOk mg K "LETTERS" (.tup [(.str "W"), (.str "N"), (.str "E"), (.str "S")])
  e_InvalidEvent : OkE P w K mg base "InvalidEvent" ["event", "reason"]
  x_InvalidEvent : PySem.W.exmOne K (.ref (He.ga K "InvalidEvent")) (.ref (He.ga K "InvalidEvent")) = some true
  e_InvalidPaper : OkE P w K mg base "InvalidPaper" ["word", "at"]
  x_InvalidPaper : PySem.W.exmOne K (.ref (He.ga K "InvalidPaper")) (.ref (He.ga K "InvalidPaper")) = some true
  e_InvalidSketch : OkE P w K mg base "InvalidSketch" ["word", "at"]
  x_InvalidSketch : PySem.W.exmOne K (.ref (He.ga K "InvalidSketch")) (.ref (He.ga K "InvalidSketch")) = some true
  e_InvalidText : OkE P w K mg base "InvalidText" ["line", "field"]
  x_InvalidText : PySem.W.exmOne K (.ref (He.ga K "InvalidText")) (.ref (He.ga K "InvalidText")) = some true
  e_NotUsable : OkE P w K mg base "NotUsable" ["word", "at"]
  x_NotUsable : PySem.W.exmOne K (.ref (He.ga K "NotUsable")) (.ref (He.ga K "NotUsable")) = some true
  e_NothingToUndo : OkE P w K mg base "NothingToUndo" ["steps"]
  x_NothingToUndo : PySem.W.exmOne K (.ref (He.ga K "NothingToUndo")) (.ref (He.ga K "NothingToUndo")) = some true
  e_Unfit : OkE P w K mg base "Unfit" ["barring"]
  x_Unfit : PySem.W.exmOne K (.ref (He.ga K "Unfit")) (.ref (He.ga K "Unfit")) = some true
  v_InvalidPaper_0 : OkV P w K mg base "InvalidPaper" ["word", "at"] [] 2 @pmA
  v_InvalidPaper_1 : OkV P w K mg base "InvalidPaper" ["word", "at"] ["at", "word"] 0 @pm10
  v_NotUsable_2 : OkV P w K mg base "NotUsable" ["word", "at"] [] 2 @pmA
  v_NotUsable_3 : OkV P w K mg base "NotUsable" ["word", "at"] ["at", "word"] 0 @pm10
  v_InvalidSketch_4 : OkV P w K mg base "InvalidSketch" ["word", "at"] ["at"] 1 @pmA
  v_Unfit_5 : OkV P w K mg base "Unfit" ["barring"] ["barring"] 0 @pm01
  v_InvalidEvent_6 : OkV P w K mg base "InvalidEvent" ["event", "reason"] ["reason", "event"] 0 @pm10
  v_NothingToUndo_7 : OkV P w K mg base "NothingToUndo" ["steps"] [] 1 @pmA
  v_InvalidText_8 : OkV P w K mg base "InvalidText" ["line", "field"] ["field"] 1 @pmA
  gc_HangError : mg "HangError" = some (.ref (He.ga K "HangError"))
  gc_InvalidEvent : mg "InvalidEvent" = some (.ref (He.ga K "InvalidEvent"))
  gc_InvalidPaper : mg "InvalidPaper" = some (.ref (He.ga K "InvalidPaper"))
  gc_InvalidSketch : mg "InvalidSketch" = some (.ref (He.ga K "InvalidSketch"))
  gc_InvalidText : mg "InvalidText" = some (.ref (He.ga K "InvalidText"))
  gc_LiveError : mg "LiveError" = some (.ref (He.ga K "LiveError"))
  gc_NotUsable : mg "NotUsable" = some (.ref (He.ga K "NotUsable"))
  gc_NothingToUndo : mg "NothingToUndo" = some (.ref (He.ga K "NothingToUndo"))
  gc_PaperError : mg "PaperError" = some (.ref (He.ga K "PaperError"))
  gc_PlanError : mg "PlanError" = some (.ref (He.ga K "PlanError"))
  gc_TextError : mg "TextError" = some (.ref (He.ga K "TextError"))
  gc_Unfit : mg "Unfit" = some (.ref (He.ga K "Unfit"))
  xc_InvalidEvent : ExcC K (He.ga K "InvalidEvent")
  xc_InvalidPaper : ExcC K (He.ga K "InvalidPaper")
  xc_InvalidSketch : ExcC K (He.ga K "InvalidSketch")
  xc_InvalidText : ExcC K (He.ga K "InvalidText")
  xc_NotUsable : ExcC K (He.ga K "NotUsable")
  xc_NothingToUndo : ExcC K (He.ga K "NothingToUndo")
  xc_Unfit : ExcC K (He.ga K "Unfit")
  ki_InvalidEvent_HangError : PySem.W.kitOne K (.ref (He.ga K "InvalidEvent")) (.ref (He.ga K "HangError")) = some true
  ki_InvalidEvent_InvalidEvent : PySem.W.kitOne K (.ref (He.ga K "InvalidEvent")) (.ref (He.ga K "InvalidEvent")) = some true
  ki_InvalidEvent_InvalidSketch : PySem.W.kitOne K (.ref (He.ga K "InvalidEvent")) (.ref (He.ga K "InvalidSketch")) = some false
  ki_InvalidEvent_InvalidText : PySem.W.kitOne K (.ref (He.ga K "InvalidEvent")) (.ref (He.ga K "InvalidText")) = some false
  ki_InvalidEvent_LiveError : PySem.W.kitOne K (.ref (He.ga K "InvalidEvent")) (.ref (He.ga K "LiveError")) = some true
  ki_InvalidEvent_NotUsable : PySem.W.kitOne K (.ref (He.ga K "InvalidEvent")) (.ref (He.ga K "NotUsable")) = some false
  ki_InvalidEvent_NothingToUndo : PySem.W.kitOne K (.ref (He.ga K "InvalidEvent")) (.ref (He.ga K "NothingToUndo")) = some false
  ki_InvalidEvent_PaperError : PySem.W.kitOne K (.ref (He.ga K "InvalidEvent")) (.ref (He.ga K "PaperError")) = some false
  ki_InvalidEvent_PlanError : PySem.W.kitOne K (.ref (He.ga K "InvalidEvent")) (.ref (He.ga K "PlanError")) = some false
  ki_InvalidEvent_TextError : PySem.W.kitOne K (.ref (He.ga K "InvalidEvent")) (.ref (He.ga K "TextError")) = some false
  ki_InvalidEvent_Unfit : PySem.W.kitOne K (.ref (He.ga K "InvalidEvent")) (.ref (He.ga K "Unfit")) = some false
  ki_InvalidEvent_ValueError : PySem.W.kitOne K (.ref (He.ga K "InvalidEvent")) (.type "ValueError") = some true
  ki_InvalidPaper_HangError : PySem.W.kitOne K (.ref (He.ga K "InvalidPaper")) (.ref (He.ga K "HangError")) = some true
  ki_InvalidPaper_InvalidEvent : PySem.W.kitOne K (.ref (He.ga K "InvalidPaper")) (.ref (He.ga K "InvalidEvent")) = some false
  ki_InvalidPaper_InvalidSketch : PySem.W.kitOne K (.ref (He.ga K "InvalidPaper")) (.ref (He.ga K "InvalidSketch")) = some false
  ki_InvalidPaper_InvalidText : PySem.W.kitOne K (.ref (He.ga K "InvalidPaper")) (.ref (He.ga K "InvalidText")) = some false
  ki_InvalidPaper_LiveError : PySem.W.kitOne K (.ref (He.ga K "InvalidPaper")) (.ref (He.ga K "LiveError")) = some false
  ki_InvalidPaper_NotUsable : PySem.W.kitOne K (.ref (He.ga K "InvalidPaper")) (.ref (He.ga K "NotUsable")) = some false
  ki_InvalidPaper_NothingToUndo : PySem.W.kitOne K (.ref (He.ga K "InvalidPaper")) (.ref (He.ga K "NothingToUndo")) = some false
  ki_InvalidPaper_PaperError : PySem.W.kitOne K (.ref (He.ga K "InvalidPaper")) (.ref (He.ga K "PaperError")) = some true
  ki_InvalidPaper_PlanError : PySem.W.kitOne K (.ref (He.ga K "InvalidPaper")) (.ref (He.ga K "PlanError")) = some false
  ki_InvalidPaper_TextError : PySem.W.kitOne K (.ref (He.ga K "InvalidPaper")) (.ref (He.ga K "TextError")) = some false
  ki_InvalidPaper_Unfit : PySem.W.kitOne K (.ref (He.ga K "InvalidPaper")) (.ref (He.ga K "Unfit")) = some false
  ki_InvalidPaper_ValueError : PySem.W.kitOne K (.ref (He.ga K "InvalidPaper")) (.type "ValueError") = some true
  ki_InvalidSketch_HangError : PySem.W.kitOne K (.ref (He.ga K "InvalidSketch")) (.ref (He.ga K "HangError")) = some true
  ki_InvalidSketch_InvalidEvent : PySem.W.kitOne K (.ref (He.ga K "InvalidSketch")) (.ref (He.ga K "InvalidEvent")) = some false
  ki_InvalidSketch_InvalidSketch : PySem.W.kitOne K (.ref (He.ga K "InvalidSketch")) (.ref (He.ga K "InvalidSketch")) = some true
  ki_InvalidSketch_InvalidText : PySem.W.kitOne K (.ref (He.ga K "InvalidSketch")) (.ref (He.ga K "InvalidText")) = some false
  ki_InvalidSketch_LiveError : PySem.W.kitOne K (.ref (He.ga K "InvalidSketch")) (.ref (He.ga K "LiveError")) = some false
  ki_InvalidSketch_NotUsable : PySem.W.kitOne K (.ref (He.ga K "InvalidSketch")) (.ref (He.ga K "NotUsable")) = some false
  ki_InvalidSketch_NothingToUndo : PySem.W.kitOne K (.ref (He.ga K "InvalidSketch")) (.ref (He.ga K "NothingToUndo")) = some false
  ki_InvalidSketch_PaperError : PySem.W.kitOne K (.ref (He.ga K "InvalidSketch")) (.ref (He.ga K "PaperError")) = some false
  ki_InvalidSketch_PlanError : PySem.W.kitOne K (.ref (He.ga K "InvalidSketch")) (.ref (He.ga K "PlanError")) = some false
  ki_InvalidSketch_TextError : PySem.W.kitOne K (.ref (He.ga K "InvalidSketch")) (.ref (He.ga K "TextError")) = some true
  ki_InvalidSketch_Unfit : PySem.W.kitOne K (.ref (He.ga K "InvalidSketch")) (.ref (He.ga K "Unfit")) = some false
  ki_InvalidSketch_ValueError : PySem.W.kitOne K (.ref (He.ga K "InvalidSketch")) (.type "ValueError") = some true
  ki_InvalidText_HangError : PySem.W.kitOne K (.ref (He.ga K "InvalidText")) (.ref (He.ga K "HangError")) = some true
  ki_InvalidText_InvalidEvent : PySem.W.kitOne K (.ref (He.ga K "InvalidText")) (.ref (He.ga K "InvalidEvent")) = some false
  ki_InvalidText_InvalidSketch : PySem.W.kitOne K (.ref (He.ga K "InvalidText")) (.ref (He.ga K "InvalidSketch")) = some false
  ki_InvalidText_InvalidText : PySem.W.kitOne K (.ref (He.ga K "InvalidText")) (.ref (He.ga K "InvalidText")) = some true
  ki_InvalidText_LiveError : PySem.W.kitOne K (.ref (He.ga K "InvalidText")) (.ref (He.ga K "LiveError")) = some false
  ki_InvalidText_NotUsable : PySem.W.kitOne K (.ref (He.ga K "InvalidText")) (.ref (He.ga K "NotUsable")) = some false
  ki_InvalidText_NothingToUndo : PySem.W.kitOne K (.ref (He.ga K "InvalidText")) (.ref (He.ga K "NothingToUndo")) = some false
  ki_InvalidText_PaperError : PySem.W.kitOne K (.ref (He.ga K "InvalidText")) (.ref (He.ga K "PaperError")) = some false
  ki_InvalidText_PlanError : PySem.W.kitOne K (.ref (He.ga K "InvalidText")) (.ref (He.ga K "PlanError")) = some false
  ki_InvalidText_TextError : PySem.W.kitOne K (.ref (He.ga K "InvalidText")) (.ref (He.ga K "TextError")) = some true
  ki_InvalidText_Unfit : PySem.W.kitOne K (.ref (He.ga K "InvalidText")) (.ref (He.ga K "Unfit")) = some false
  ki_InvalidText_ValueError : PySem.W.kitOne K (.ref (He.ga K "InvalidText")) (.type "ValueError") = some true
  ki_NotUsable_HangError : PySem.W.kitOne K (.ref (He.ga K "NotUsable")) (.ref (He.ga K "HangError")) = some true
  ki_NotUsable_InvalidEvent : PySem.W.kitOne K (.ref (He.ga K "NotUsable")) (.ref (He.ga K "InvalidEvent")) = some false
  ki_NotUsable_InvalidSketch : PySem.W.kitOne K (.ref (He.ga K "NotUsable")) (.ref (He.ga K "InvalidSketch")) = some false
  ki_NotUsable_InvalidText : PySem.W.kitOne K (.ref (He.ga K "NotUsable")) (.ref (He.ga K "InvalidText")) = some false
  ki_NotUsable_LiveError : PySem.W.kitOne K (.ref (He.ga K "NotUsable")) (.ref (He.ga K "LiveError")) = some false
  ki_NotUsable_NotUsable : PySem.W.kitOne K (.ref (He.ga K "NotUsable")) (.ref (He.ga K "NotUsable")) = some true
  ki_NotUsable_NothingToUndo : PySem.W.kitOne K (.ref (He.ga K "NotUsable")) (.ref (He.ga K "NothingToUndo")) = some false
  ki_NotUsable_PaperError : PySem.W.kitOne K (.ref (He.ga K "NotUsable")) (.ref (He.ga K "PaperError")) = some false
  ki_NotUsable_PlanError : PySem.W.kitOne K (.ref (He.ga K "NotUsable")) (.ref (He.ga K "PlanError")) = some true
  ki_NotUsable_TextError : PySem.W.kitOne K (.ref (He.ga K "NotUsable")) (.ref (He.ga K "TextError")) = some false
  ki_NotUsable_Unfit : PySem.W.kitOne K (.ref (He.ga K "NotUsable")) (.ref (He.ga K "Unfit")) = some false
  ki_NotUsable_ValueError : PySem.W.kitOne K (.ref (He.ga K "NotUsable")) (.type "ValueError") = some true
  ki_NothingToUndo_HangError : PySem.W.kitOne K (.ref (He.ga K "NothingToUndo")) (.ref (He.ga K "HangError")) = some true
  ki_NothingToUndo_InvalidEvent : PySem.W.kitOne K (.ref (He.ga K "NothingToUndo")) (.ref (He.ga K "InvalidEvent")) = some false
  ki_NothingToUndo_InvalidSketch : PySem.W.kitOne K (.ref (He.ga K "NothingToUndo")) (.ref (He.ga K "InvalidSketch")) = some false
  ki_NothingToUndo_InvalidText : PySem.W.kitOne K (.ref (He.ga K "NothingToUndo")) (.ref (He.ga K "InvalidText")) = some false
  ki_NothingToUndo_LiveError : PySem.W.kitOne K (.ref (He.ga K "NothingToUndo")) (.ref (He.ga K "LiveError")) = some true
  ki_NothingToUndo_NotUsable : PySem.W.kitOne K (.ref (He.ga K "NothingToUndo")) (.ref (He.ga K "NotUsable")) = some false
  ki_NothingToUndo_NothingToUndo : PySem.W.kitOne K (.ref (He.ga K "NothingToUndo")) (.ref (He.ga K "NothingToUndo")) = some true
  ki_NothingToUndo_PaperError : PySem.W.kitOne K (.ref (He.ga K "NothingToUndo")) (.ref (He.ga K "PaperError")) = some false
  ki_NothingToUndo_PlanError : PySem.W.kitOne K (.ref (He.ga K "NothingToUndo")) (.ref (He.ga K "PlanError")) = some false
  ki_NothingToUndo_TextError : PySem.W.kitOne K (.ref (He.ga K "NothingToUndo")) (.ref (He.ga K "TextError")) = some false
  ki_NothingToUndo_Unfit : PySem.W.kitOne K (.ref (He.ga K "NothingToUndo")) (.ref (He.ga K "Unfit")) = some false
  ki_NothingToUndo_ValueError : PySem.W.kitOne K (.ref (He.ga K "NothingToUndo")) (.type "ValueError") = some true
  ki_Unfit_HangError : PySem.W.kitOne K (.ref (He.ga K "Unfit")) (.ref (He.ga K "HangError")) = some true
  ki_Unfit_InvalidEvent : PySem.W.kitOne K (.ref (He.ga K "Unfit")) (.ref (He.ga K "InvalidEvent")) = some false
  ki_Unfit_InvalidSketch : PySem.W.kitOne K (.ref (He.ga K "Unfit")) (.ref (He.ga K "InvalidSketch")) = some false
  ki_Unfit_InvalidText : PySem.W.kitOne K (.ref (He.ga K "Unfit")) (.ref (He.ga K "InvalidText")) = some false
  ki_Unfit_LiveError : PySem.W.kitOne K (.ref (He.ga K "Unfit")) (.ref (He.ga K "LiveError")) = some false
  ki_Unfit_NotUsable : PySem.W.kitOne K (.ref (He.ga K "Unfit")) (.ref (He.ga K "NotUsable")) = some false
  ki_Unfit_NothingToUndo : PySem.W.kitOne K (.ref (He.ga K "Unfit")) (.ref (He.ga K "NothingToUndo")) = some false
  ki_Unfit_PaperError : PySem.W.kitOne K (.ref (He.ga K "Unfit")) (.ref (He.ga K "PaperError")) = some false
  ki_Unfit_PlanError : PySem.W.kitOne K (.ref (He.ga K "Unfit")) (.ref (He.ga K "PlanError")) = some true
  ki_Unfit_TextError : PySem.W.kitOne K (.ref (He.ga K "Unfit")) (.ref (He.ga K "TextError")) = some false
  ki_Unfit_Unfit : PySem.W.kitOne K (.ref (He.ga K "Unfit")) (.ref (He.ga K "Unfit")) = some true
  ki_Unfit_ValueError : PySem.W.kitOne K (.ref (He.ga K "Unfit")) (.type "ValueError") = some true
end LawM
end
section
set_option Elab.async false
set_option linter.all false
set_option maxRecDepth 100000
set_option maxHeartbeats 0
/-! the head -/
namespace LawM
open PySem PySem.Spec PyProof.Rows L2 MP
def defQ (x : Str) (st : Stmt) : He.DefD := ⟨(x, none), x, x, defArgs st, defBody st, defScope st, [], []⟩
def iniQ (x : Str) (q : Str) (st : Stmt) : He.DefD := ⟨(x, some "__init__"), "__init__", q, defArgs st, defBody st, defScope st, [], []⟩
def inClass (st : Stmt) (j : Nat) : Stmt := match st with
  | .ClassDef _ _ _ b _ _ _ _ _ _ _ => b.getD j (.Pass ⟨0, 0, 0, 0⟩)
  | s => s
def i_InvalidEvent : Stmt := inClass (top 10) 0
theorem sci_InvalidEvent : FnScope ["self", "event", "reason"] ["self", "event", "reason"] (defScope i_InvalidEvent) := ⟨rfl, rfl, rfl, by decide +kernel, rfl, by decide +kernel, by decide +kernel⟩
def i_InvalidPaper : Stmt := inClass (top 7) 0
theorem sci_InvalidPaper : FnScope ["self", "word", "at"] ["self", "word", "at"] (defScope i_InvalidPaper) := ⟨rfl, rfl, rfl, by decide +kernel, rfl, by decide +kernel, by decide +kernel⟩
def i_InvalidSketch : Stmt := inClass (top 12) 0
theorem sci_InvalidSketch : FnScope ["self", "word", "at"] ["self", "word", "at"] (defScope i_InvalidSketch) := ⟨rfl, rfl, rfl, by decide +kernel, rfl, by decide +kernel, by decide +kernel⟩
def i_InvalidText : Stmt := inClass (top 13) 0
theorem sci_InvalidText : FnScope ["self", "line", "field"] ["self", "line", "field"] (defScope i_InvalidText) := ⟨rfl, rfl, rfl, by decide +kernel, rfl, by decide +kernel, by decide +kernel⟩
def i_NotUsable : Stmt := inClass (top 8) 0
theorem sci_NotUsable : FnScope ["self", "word", "at"] ["self", "word", "at"] (defScope i_NotUsable) := ⟨rfl, rfl, rfl, by decide +kernel, rfl, by decide +kernel, by decide +kernel⟩
def i_NothingToUndo : Stmt := inClass (top 11) 0
theorem sci_NothingToUndo : FnScope ["self", "steps"] ["self", "steps"] (defScope i_NothingToUndo) := ⟨rfl, rfl, rfl, by decide +kernel, rfl, by decide +kernel, by decide +kernel⟩
def i_Unfit : Stmt := inClass (top 9) 0
theorem sci_Unfit : FnScope ["self", "barring"] ["self", "barring"] (defScope i_Unfit) := ⟨rfl, rfl, rfl, by decide +kernel, rfl, by decide +kernel, by decide +kernel⟩
def fn : List He.DefD := [defQ "is_integer" s_is_integer, defQ "is_quotient" s_is_quotient, defQ "is_positive" s_is_positive, defQ "_need_number" s__need_number, defQ "is_shapes" s_is_shapes, defQ "is_table" s_is_table, defQ "_need_side" s__need_side, defQ "side_after" s_side_after, defQ "side_opposite" s_side_opposite, defQ "is_place" s_is_place, defQ "place_letter" s_place_letter, defQ "settle" s_settle, defQ "_need_two" s__need_two, defQ "plus" s_plus, defQ "minus" s_minus, defQ "times" s_times, defQ "over" s_over, defQ "is_less" s_is_less, defQ "_law_mixed" s__law_mixed, defQ "_law_pool" s__law_pool, defQ "_law_take" s__law_take, defQ "_law_whole" s__law_whole, defQ "_law_common" s__law_common, defQ "_law_low" s__law_low, defQ "_law_quotient" s__law_quotient, defQ "_law_small" s__law_small, defQ "_law_great" s__law_great, defQ "_law_value" s__law_value, defQ "_law_like" s__law_like, defQ "_law_kin" s__law_kin, defQ "_law_two" s__law_two, defQ "_law_single" s__law_single, defQ "_law_all_of" s__law_all_of, defQ "_law_reckoned" s__law_reckoned, defQ "_law_pair" s__law_pair, defQ "_law_alone" s__law_alone, defQ "_law_papers" s__law_papers, defQ "_law_errors" s__law_errors, defQ "_law_long" s__law_long, defQ "_law_row" s__law_row, defQ "law" s_law, iniQ "InvalidEvent" "InvalidEvent.__init__" i_InvalidEvent, iniQ "InvalidPaper" "InvalidPaper.__init__" i_InvalidPaper, iniQ "InvalidSketch" "InvalidSketch.__init__" i_InvalidSketch, iniQ "InvalidText" "InvalidText.__init__" i_InvalidText, iniQ "NotUsable" "NotUsable.__init__" i_NotUsable, iniQ "NothingToUndo" "NothingToUndo.__init__" i_NothingToUndo, iniQ "Unfit" "Unfit.__init__" i_Unfit]
def xfr : List Str := (["ValueError", "abs", "all", "bool", "int", "isinstance", "len", "list", "max", "range", "str", "tuple"] : List Str)
def xbl : List (Str × String) := [("gcd", "math.gcd")]
def xgl : List Str := (["is_integer", "is_quotient", "is_positive", "_need_number", "is_shapes", "is_table", "_need_side", "side_after", "side_opposite", "is_place", "place_letter", "settle", "_need_two", "plus", "minus", "times"] : List Str) ++ (["over", "is_less", "_law_mixed", "_law_pool", "_law_take", "_law_whole", "_law_common", "_law_low", "_law_quotient", "_law_small", "_law_great", "_law_value", "_law_like", "_law_kin", "_law_two", "_law_single"] : List Str) ++ (["_law_all_of", "_law_reckoned", "_law_pair", "_law_alone", "_law_papers", "_law_errors", "_law_long", "_law_row", "law", "HangError", "LiveError", "PaperError", "PlanError", "TextError", "InvalidEvent", "InvalidPaper"] : List Str) ++ (["InvalidSketch", "InvalidText", "NotUsable", "NothingToUndo", "Unfit"] : List Str)
def xex : List (Str × Str × Bool) := [("InvalidEvent", "InvalidEvent", true), ("InvalidPaper", "InvalidPaper", true), ("InvalidSketch", "InvalidSketch", true), ("InvalidText", "InvalidText", true), ("NotUsable", "NotUsable", true), ("NothingToUndo", "NothingToUndo", true), ("Unfit", "Unfit", true)]
def xer : List (Str × List Str) := [("InvalidEvent", ["event", "reason"]), ("InvalidPaper", ["word", "at"]), ("InvalidSketch", ["word", "at"]), ("InvalidText", ["line", "field"]), ("NotUsable", ["word", "at"]), ("NothingToUndo", ["steps"]), ("Unfit", ["barring"])]
def xec : List Str := ["InvalidEvent", "InvalidPaper", "InvalidSketch", "InvalidText", "NotUsable", "NothingToUndo", "Unfit"]
def xki : List (Str × Str × Bool) := ([("InvalidEvent", "HangError", true), ("InvalidEvent", "InvalidEvent", true), ("InvalidEvent", "InvalidSketch", false), ("InvalidEvent", "InvalidText", false), ("InvalidEvent", "LiveError", true), ("InvalidEvent", "NotUsable", false), ("InvalidEvent", "NothingToUndo", false), ("InvalidEvent", "PaperError", false), ("InvalidEvent", "PlanError", false), ("InvalidEvent", "TextError", false), ("InvalidEvent", "Unfit", false), ("InvalidPaper", "HangError", true), ("InvalidPaper", "InvalidEvent", false), ("InvalidPaper", "InvalidSketch", false), ("InvalidPaper", "InvalidText", false), ("InvalidPaper", "LiveError", false), ("InvalidPaper", "NotUsable", false), ("InvalidPaper", "NothingToUndo", false), ("InvalidPaper", "PaperError", true), ("InvalidPaper", "PlanError", false), ("InvalidPaper", "TextError", false), ("InvalidPaper", "Unfit", false), ("InvalidSketch", "HangError", true), ("InvalidSketch", "InvalidEvent", false)] : List (Str × Str × Bool)) ++ ([("InvalidSketch", "InvalidSketch", true), ("InvalidSketch", "InvalidText", false), ("InvalidSketch", "LiveError", false), ("InvalidSketch", "NotUsable", false), ("InvalidSketch", "NothingToUndo", false), ("InvalidSketch", "PaperError", false), ("InvalidSketch", "PlanError", false), ("InvalidSketch", "TextError", true), ("InvalidSketch", "Unfit", false), ("InvalidText", "HangError", true), ("InvalidText", "InvalidEvent", false), ("InvalidText", "InvalidSketch", false), ("InvalidText", "InvalidText", true), ("InvalidText", "LiveError", false), ("InvalidText", "NotUsable", false), ("InvalidText", "NothingToUndo", false), ("InvalidText", "PaperError", false), ("InvalidText", "PlanError", false), ("InvalidText", "TextError", true), ("InvalidText", "Unfit", false), ("NotUsable", "HangError", true), ("NotUsable", "InvalidEvent", false), ("NotUsable", "InvalidSketch", false), ("NotUsable", "InvalidText", false)] : List (Str × Str × Bool)) ++ ([("NotUsable", "LiveError", false), ("NotUsable", "NotUsable", true), ("NotUsable", "NothingToUndo", false), ("NotUsable", "PaperError", false), ("NotUsable", "PlanError", true), ("NotUsable", "TextError", false), ("NotUsable", "Unfit", false), ("NothingToUndo", "HangError", true), ("NothingToUndo", "InvalidEvent", false), ("NothingToUndo", "InvalidSketch", false), ("NothingToUndo", "InvalidText", false), ("NothingToUndo", "LiveError", true), ("NothingToUndo", "NotUsable", false), ("NothingToUndo", "NothingToUndo", true), ("NothingToUndo", "PaperError", false), ("NothingToUndo", "PlanError", false), ("NothingToUndo", "TextError", false), ("NothingToUndo", "Unfit", false), ("Unfit", "HangError", true), ("Unfit", "InvalidEvent", false), ("Unfit", "InvalidSketch", false), ("Unfit", "InvalidText", false), ("Unfit", "LiveError", false), ("Unfit", "NotUsable", false)] : List (Str × Str × Bool)) ++ ([("Unfit", "NothingToUndo", false), ("Unfit", "PaperError", false), ("Unfit", "PlanError", true), ("Unfit", "TextError", false), ("Unfit", "Unfit", true)] : List (Str × Str × Bool))
def xkb : List (Str × String × Bool) := ([("InvalidEvent", "ValueError", true), ("InvalidPaper", "ValueError", true), ("InvalidSketch", "ValueError", true), ("InvalidText", "ValueError", true), ("NotUsable", "ValueError", true), ("NothingToUndo", "ValueError", true), ("Unfit", "ValueError", true)] : List (Str × String × Bool))
def xcs : List (Str × D) := [("LETTERS", (.tup [(.str "W"), (.str "N"), (.str "E"), (.str "S")]))]
def ex (K : PySem.W.Frag) : Bool := (freeB xfr K && (bltB xbl K && (gloB xgl K && exmB xex K))) && (xer.all (fun p => errB p.1 p.2 K) && (xec.all (fun x => excB K (He.ga K x)) && (kioB xki K && (kibB xkb K && cstB xcs K))))
abbrev R : PySem.W.OpenRow := PySem.W.OpenLaw.row PySem.Challenge.rw_hungwall_k00_kinds_quotients_places
abbrev hk : PySem.W.Hook := hookM 4 fn ex
def ob (s : PySem.W.SharedT) : AlM := obsM 4 fn ex (HandSHeadRun.getT s)
theorem ob_eq (s : PySem.W.SharedT) : ob s = hk.obs s.abs := obsM_eq (HandSHeadRun.getT_eq s)
def loose0 : List Str := ["gcd", "__name__", "HangError", "PaperError", "PlanError", "LiveError", "TextError", "InvalidPaper", "NotUsable", "Unfit", "InvalidEvent", "NothingToUndo", "InvalidSketch", "InvalidText", "is_integer", "is_quotient"]
def loose1 : List Str := ["is_positive", "is_shapes", "is_table", "_need_number", "LETTERS", "side_after", "side_opposite", "is_place", "place_letter", "_need_side", "settle", "plus", "minus", "times", "over", "is_less"]
def loose2 : List Str := ["_need_two", "_law_mixed", "_law_pool", "_law_take", "_law_whole", "_law_common", "_law_low", "_law_quotient", "_law_small", "_law_great", "_law_value", "_law_like", "_law_kin", "_law_two", "_law_single", "_law_all_of"]
def loose3 : List Str := ["_law_reckoned", "_law_pair", "_law_alone", "_law_papers", "_law_errors", "_law_long", "_law_row"]
def loose : List Str := loose0 ++ loose1 ++ loose2 ++ loose3
theorem run (w : World) : HandSHeadRun.RunEqI R (PySem.W.view R.prog [0, 60]) hk ob 6000 loose w := by
  unfold HandSHeadRun.RunEqI
  kernel_rfl
end LawM
end
section
set_option Elab.async false
set_option linter.all false
set_option maxRecDepth 100000
set_option maxHeartbeats 4000000
/-! the evaluators of the text -/
namespace LawM
open PySem PySem.Spec PyProof.Rows L2 MP
noncomputable section
abbrev N_is_integer : List Str := ["thing"]
def ev_is_integer : Es :=
 (sRet (eAnd (eU (dIsi "int") (eVar 0)) (eNot (eU (dIsi "bool") (eVar 0)))))
def rf_is_integer : List D → Sto → Res D := runDef 1 ev_is_integer

abbrev N_is_quotient : List Str := ["thing", "top", "bottom"]
def ev_is_quotient : Es :=
 (sSeq (sIf (eOrT (eNotT (eTest (eU (dIsi "tuple") (eVar 0)))) (eTest (eB dNe (eL dLen (aCons (eVar 0) aNil)) (eC (.int 2)))))
 (sRet (eC (.bl false)))
 sSkip)
 (sSeq (sBind (bTup 2 (bCons (bName 1) (bCons (bName 2) bNil))) (eVar 0))
 (sSeq (sIf (eOrT (eNotT (eTest (eCall 1 rf_is_integer (aCons (eVar 1) aNil)))) (eNotT (eTest (eCall 1 rf_is_integer (aCons (eVar 2) aNil)))))
 (sRet (eC (.bl false)))
 sSkip)
 (sRet (eAnd (eB dGe (eVar 2) (eC (.int 1))) (eB dEq (eL dGcd (aCons (eVar 1) (aCons (eVar 2) aNil))) (eC (.int 1))))))))
def rf_is_quotient : List D → Sto → Res D := runDef 3 ev_is_quotient

abbrev N_is_positive : List Str := ["thing"]
def ev_is_positive : Es :=
 (sRet (eAnd (eCall 1 rf_is_quotient (aCons (eVar 0) aNil)) (eB dGt (eB dIx (eVar 0) (eC (.int 0))) (eC (.int 0)))))
def rf_is_positive : List D → Sto → Res D := runDef 1 ev_is_positive

abbrev N__need_number : List Str := ["many"]
def ev__need_number : Es :=
 (sIf (eOrT (eNotT (eTest (eCall 1 rf_is_integer (aCons (eVar 0) aNil)))) (eTest (eB dLt (eVar 0) (eC (.int 0)))))
 (sRaise "NotUsable" ["word", "at"] (aCons (eC (.str "many")) (aCons (eU dNeg (eC (.int 1))) aNil)))
 sSkip)
def rf__need_number : List D → Sto → Res D := runDef 1 ev__need_number

abbrev N_is_shapes : List Str := ["many", "thing", "shape"]
def ev_is_shapes : Es :=
 (sSeq (sExpr (eCall 1 rf__need_number (aCons (eVar 0) aNil)))
 (sSeq (sIf (eOrT (eNotT (eTest (eU (dIsi "tuple") (eVar 1)))) (eTest (eB dNe (eL dLen (aCons (eVar 1) aNil)) (eVar 0))))
 (sRet (eC (.bl false)))
 sSkip)
 (sRet (eL dAll (aCons (eLc (iSeq (eVar 1)) (bName 2) tTrue (eCall 1 rf_is_positive (aCons (eVar 2) aNil)) [2]) aNil)))))
def rf_is_shapes : List D → Sto → Res D := runDef 3 ev_is_shapes

abbrev N_is_table : List Str := ["many", "thing", "entry"]
def ev_is_table : Es :=
 (sSeq (sExpr (eCall 1 rf__need_number (aCons (eVar 0) aNil)))
 (sSeq (sIf (eOrT (eNotT (eTest (eU (dIsi "tuple") (eVar 1)))) (eTest (eB dNe (eL dLen (aCons (eVar 1) aNil)) (eVar 0))))
 (sRet (eC (.bl false)))
 sSkip)
 (sRet (eL dAll (aCons (eLc (iSeq (eVar 1)) (bName 2) tTrue (eAnd (eCall 1 rf_is_quotient (aCons (eVar 2) aNil)) (eB dGe (eB dIx (eVar 2) (eC (.int 0))) (eC (.int 0)))) [2]) aNil)))))
def rf_is_table : List D → Sto → Res D := runDef 3 ev_is_table

abbrev N__need_side : List Str := ["side"]
def ev__need_side : Es :=
 (sIf (eOrT (eNotT (eTest (eCall 1 rf_is_integer (aCons (eVar 0) aNil)))) (eNotT (eTest (eChain dLe dLe (eU dNeg (eC (.int 4))) (eVar 0) (eU dNeg (eC (.int 1)))))))
 (sRaise "NotUsable" ["word", "at"] (aCons (eC (.str "side")) (aCons (eU dNeg (eC (.int 1))) aNil)))
 sSkip)
def rf__need_side : List D → Sto → Res D := runDef 1 ev__need_side

abbrev N_side_after : List Str := ["side"]
def ev_side_after : Es :=
 (sSeq (sExpr (eCall 1 rf__need_side (aCons (eVar 0) aNil)))
 (sRet (eIf (eTest (eB dEq (eVar 0) (eU dNeg (eC (.int 1))))) (eU dNeg (eC (.int 4))) (eB dAdd (eVar 0) (eC (.int 1))))))
def rf_side_after : List D → Sto → Res D := runDef 1 ev_side_after

abbrev N_side_opposite : List Str := ["side"]
def ev_side_opposite : Es :=
 (sSeq (sExpr (eCall 1 rf__need_side (aCons (eVar 0) aNil)))
 (sRet (eIf (eTest (eB dLt (eVar 0) (eU dNeg (eC (.int 2))))) (eB dAdd (eVar 0) (eC (.int 2))) (eB dSub (eVar 0) (eC (.int 2))))))
def rf_side_opposite : List D → Sto → Res D := runDef 1 ev_side_opposite

abbrev N_is_place : List Str := ["many", "thing"]
def ev_is_place : Es :=
 (sSeq (sIf (eOrT (eNotT (eTest (eCall 1 rf_is_integer (aCons (eVar 0) aNil)))) (eTest (eB dLt (eVar 0) (eC (.int 0)))))
 (sRaise "NotUsable" ["word", "at"] (aCons (eC (.str "many")) (aCons (eU dNeg (eC (.int 1))) aNil)))
 sSkip)
 (sRet (eAnd (eCall 1 rf_is_integer (aCons (eVar 1) aNil)) (eChain dLe dLt (eU dNeg (eC (.int 4))) (eVar 1) (eVar 0)))))
def rf_is_place : List D → Sto → Res D := runDef 2 ev_is_place

abbrev N_place_letter : List Str := ["place"]
def ev_place_letter : Es :=
 (sSeq (sIf (eOrT (eNotT (eTest (eCall 1 rf_is_integer (aCons (eVar 0) aNil)))) (eTest (eB dLt (eVar 0) (eU dNeg (eC (.int 4))))))
 (sRaise "NotUsable" ["word", "at"] (aCons (eC (.str "place")) (aCons (eU dNeg (eC (.int 1))) aNil)))
 sSkip)
 (sRet (eIf (eTest (eB dLt (eVar 0) (eC (.int 0)))) (eB dIx (eC (.tup [(.str "W"), (.str "N"), (.str "E"), (.str "S")])) (eB dAdd (eVar 0) (eC (.int 4)))) (eL dStr (aCons (eVar 0) aNil)))))
def rf_place_letter : List D → Sto → Res D := runDef 1 ev_place_letter

abbrev N_settle : List Str := ["top", "bottom", "common"]
def ev_settle : Es :=
 (sSeq (sAsg 2 (eL dGcd (aCons (eVar 0) (aCons (eVar 1) aNil))))
 (sSeq (sIf (eTest (eB dLt (eVar 1) (eC (.int 0))))
 (sAsg 2 (eU dNeg (eVar 2)))
 sSkip)
 (sRet (eTup (aCons (eB dDiv (eVar 0) (eVar 2)) (aCons (eB dDiv (eVar 1) (eVar 2)) aNil))))))
def rf_settle : List D → Sto → Res D := runDef 3 ev_settle

abbrev N__need_two : List Str := ["one", "other"]
def ev__need_two : Es :=
 (sSeq (sIf (eNotT (eTest (eCall 1 rf_is_quotient (aCons (eVar 0) aNil))))
 (sRaise "NotUsable" ["word", "at"] (aCons (eC (.str "one")) (aCons (eU dNeg (eC (.int 1))) aNil)))
 sSkip)
 (sIf (eNotT (eTest (eCall 1 rf_is_quotient (aCons (eVar 1) aNil))))
 (sRaise "NotUsable" ["word", "at"] (aCons (eC (.str "other")) (aCons (eU dNeg (eC (.int 1))) aNil)))
 sSkip))
def rf__need_two : List D → Sto → Res D := runDef 2 ev__need_two

abbrev N_plus : List Str := ["one", "other"]
def ev_plus : Es :=
 (sSeq (sExpr (eCall 2 rf__need_two (aCons (eVar 0) (aCons (eVar 1) aNil))))
 (sRet (eCall 2 rf_settle (aCons (eB dAdd (eB dMul (eB dIx (eVar 0) (eC (.int 0))) (eB dIx (eVar 1) (eC (.int 1)))) (eB dMul (eB dIx (eVar 1) (eC (.int 0))) (eB dIx (eVar 0) (eC (.int 1))))) (aCons (eB dMul (eB dIx (eVar 0) (eC (.int 1))) (eB dIx (eVar 1) (eC (.int 1)))) aNil)))))
def rf_plus : List D → Sto → Res D := runDef 2 ev_plus

abbrev N_minus : List Str := ["one", "other"]
def ev_minus : Es :=
 (sSeq (sExpr (eCall 2 rf__need_two (aCons (eVar 0) (aCons (eVar 1) aNil))))
 (sRet (eCall 2 rf_settle (aCons (eB dSub (eB dMul (eB dIx (eVar 0) (eC (.int 0))) (eB dIx (eVar 1) (eC (.int 1)))) (eB dMul (eB dIx (eVar 1) (eC (.int 0))) (eB dIx (eVar 0) (eC (.int 1))))) (aCons (eB dMul (eB dIx (eVar 0) (eC (.int 1))) (eB dIx (eVar 1) (eC (.int 1)))) aNil)))))
def rf_minus : List D → Sto → Res D := runDef 2 ev_minus

abbrev N_times : List Str := ["one", "other"]
def ev_times : Es :=
 (sSeq (sExpr (eCall 2 rf__need_two (aCons (eVar 0) (aCons (eVar 1) aNil))))
 (sRet (eCall 2 rf_settle (aCons (eB dMul (eB dIx (eVar 0) (eC (.int 0))) (eB dIx (eVar 1) (eC (.int 0)))) (aCons (eB dMul (eB dIx (eVar 0) (eC (.int 1))) (eB dIx (eVar 1) (eC (.int 1)))) aNil)))))
def rf_times : List D → Sto → Res D := runDef 2 ev_times

abbrev N_over : List Str := ["one", "other"]
def ev_over : Es :=
 (sSeq (sExpr (eCall 2 rf__need_two (aCons (eVar 0) (aCons (eVar 1) aNil))))
 (sSeq (sIf (eTest (eB dEq (eB dIx (eVar 1) (eC (.int 0))) (eC (.int 0))))
 (sRaise "NotUsable" ["word", "at"] (aCons (eC (.str "other")) (aCons (eU dNeg (eC (.int 1))) aNil)))
 sSkip)
 (sRet (eCall 2 rf_settle (aCons (eB dMul (eB dIx (eVar 0) (eC (.int 0))) (eB dIx (eVar 1) (eC (.int 1)))) (aCons (eB dMul (eB dIx (eVar 0) (eC (.int 1))) (eB dIx (eVar 1) (eC (.int 0)))) aNil))))))
def rf_over : List D → Sto → Res D := runDef 2 ev_over

abbrev N_is_less : List Str := ["one", "other"]
def ev_is_less : Es :=
 (sSeq (sExpr (eCall 2 rf__need_two (aCons (eVar 0) (aCons (eVar 1) aNil))))
 (sRet (eB dLt (eB dMul (eB dIx (eVar 0) (eC (.int 0))) (eB dIx (eVar 1) (eC (.int 1)))) (eB dMul (eB dIx (eVar 1) (eC (.int 0))) (eB dIx (eVar 0) (eC (.int 1)))))))
def rf_is_less : List D → Sto → Res D := runDef 2 ev_is_less

abbrev N__law_mixed : List Str := ["_law_cell", "_law_tick", "_law_first", "_law_second", "_law_third"]
def ev__law_mixed : Es :=
 (sSeq (sAsg 2 (eB dMod (eL dInt (aCons (eB dAdd (eB dAdd (eB dMul (eVar 0) (eC (.int 50021))) (eB dMul (eVar 1) (eC (.int 71993)))) (eC (.int 13))) aNil)) (eC (.int 2147480009))))
 (sSeq (sAsg 3 (eB dMod (eL dInt (aCons (eB dAdd (eB dAdd (eB dMul (eVar 2) (eVar 2)) (eB dMul (eVar 1) (eC (.int 30011)))) (eC (.int 5))) aNil)) (eC (.int 2147470001))))
 (sSeq (sAsg 4 (eB dMod (eL dInt (aCons (eB dAdd (eB dAdd (eB dDiv (eB dMul (eVar 3) (eVar 3)) (eC (.int 4099))) (eB dMul (eVar 3) (eC (.int 20011)))) (eVar 1)) aNil)) (eC (.int 2147460011))))
 (sRet (eB dDiv (eVar 4) (eC (.int 8)))))))
def rf__law_mixed : List D → Sto → Res D := runDef 5 ev__law_mixed

abbrev N__law_pool : List Str := ["_law_script", "_law_seed", "_law_cell"]
def ev__law_pool : Es :=
 (sSeq (sAsg 1 (eC (.int 0)))
 (sSeq (sFor (iSeq (eVar 0)) (bName 2)
 (sAsg 1 (eB dMod (eL dInt (aCons (eB dAdd (eB dAdd (eB dMul (eVar 1) (eC (.int 31391))) (eB dMul (eVar 2) (eC (.int 2)))) (eC (.int 5))) aNil)) (eC (.int 2147450009)))))
 (sRet (eLst (aCons (eL dListOf (aCons (eVar 0) aNil)) (aCons (eC (.int 0)) (aCons (eC (.int 0)) (aCons (eVar 1) (aCons (eL dLen (aCons (eVar 0) aNil)) aNil)))))))))
def rf__law_pool : List D → Sto → Res D := runDef 3 ev__law_pool

abbrev N__law_take : List Str := ["_law_pool_here", "_law_size", "_law_cell", "_law_digit"]
def ev__law_take : Es :=
 (sSeq (sIf (eTest (eB dEq (eB dIx (eVar 0) (eC (.int 4))) (eC (.int 0))))
 (sRet (eC (.int 0)))
 sSkip)
 (sSeq (sIf (eAndT (eTest (eB dEq (eB dIx (eVar 0) (eC (.int 1))) (eC (.int 0)))) (eTest (eB dGt (eL dLen (aCons (eB dIx (eVar 0) (eC (.int 0))) aNil)) (eC (.int 0)))))
 (sSeq (sAsg 2 (eL dAbs (aCons (eMt mPopAt (eB dIx (eVar 0) (eC (.int 0))) (aCons (eC (.int 0)) aNil)) aNil)))
 (sSeq (sIf (eTest (eB dLt (eVar 2) (eB dPow (eC (.int 10)) (eC (.int 18)))))
 (sSeq (sSub gSet (eVar 0) (eC (.int 2)) (eB dAdd (eB dIx (eVar 0) (eC (.int 2))) (eC (.int 1))))
 (sRet (eB dMod (eL dInt (aCons (eCall 2 rf__law_mixed (aCons (eVar 2) (aCons (eB dIx (eVar 0) (eC (.int 2))) aNil))) aNil)) (eVar 1))))
 sSkip)
 (sSub gSet (eVar 0) (eC (.int 1)) (eB dMod (eL dInt (aCons (eVar 2) aNil)) (eB dMul (eB dMul (eB dPow (eC (.int 10)) (eC (.int 64))) (eB dPow (eC (.int 10)) (eC (.int 64)))) (eB dPow (eC (.int 10)) (eC (.int 64))))))))
 sSkip)
 (sSeq (sIf (eTest (eB dGt (eB dIx (eVar 0) (eC (.int 1))) (eC (.int 0))))
 (sSeq (sAsg 3 (eB dMod (eL dInt (aCons (eB dIx (eVar 0) (eC (.int 1))) aNil)) (eVar 1)))
 (sSeq (sSub gSet (eVar 0) (eC (.int 1)) (eB dDiv (eB dIx (eVar 0) (eC (.int 1))) (eVar 1)))
 (sRet (eVar 3))))
 sSkip)
 (sSeq (sSub gSet (eVar 0) (eC (.int 2)) (eB dAdd (eB dIx (eVar 0) (eC (.int 2))) (eC (.int 1))))
 (sRet (eB dMod (eL dInt (aCons (eCall 2 rf__law_mixed (aCons (eB dIx (eVar 0) (eC (.int 3))) (aCons (eB dIx (eVar 0) (eC (.int 2))) aNil))) aNil)) (eVar 1)))))))
def rf__law_take : List D → Sto → Res D := runDef 4 ev__law_take

abbrev N__law_whole : List Str := ["_law_value_here"]
def ev__law_whole : Es :=
 (sRet (eAnd (eU (dIsi "int") (eVar 0)) (eNot (eU (dIsi "bool") (eVar 0)))))
def rf__law_whole : List D → Sto → Res D := runDef 1 ev__law_whole

abbrev N__law_common : List Str := ["_law_high", "_law_low_here"]
def ev__law_common : Es :=
 (sSeq (sWhile (eTest (eB dNe (eVar 1) (eC (.int 0))))
 (sPar 0 1 (eVar 1) (eB dMod (eL dInt (aCons (eVar 0) aNil)) (eVar 1))))
 (sRet (eVar 0)))
def rf__law_common : List D → Sto → Res D := runDef 2 ev__law_common

abbrev N__law_low : List Str := ["_law_top", "_law_bottom", "_law_common_here"]
def ev__law_low : Es :=
 (sSeq (sAsg 2 (eCall 2 rf__law_common (aCons (eL dAbs (aCons (eVar 0) aNil)) (aCons (eVar 1) aNil))))
 (sRet (eTup (aCons (eB dDiv (eVar 0) (eVar 2)) (aCons (eB dDiv (eVar 1) (eVar 2)) aNil)))))
def rf__law_low : List D → Sto → Res D := runDef 3 ev__law_low

abbrev N__law_quotient : List Str := ["_law_value_here"]
def ev__law_quotient : Es :=
 (sSeq (sIf (eOrT (eNotT (eTest (eU (dIsi "tuple") (eVar 0)))) (eTest (eB dNe (eL dLen (aCons (eVar 0) aNil)) (eC (.int 2)))))
 (sRet (eC (.bl false)))
 sSkip)
 (sSeq (sIf (eOrT (eNotT (eTest (eCall 1 rf__law_whole (aCons (eB dIx (eVar 0) (eC (.int 0))) aNil)))) (eOrT (eNotT (eTest (eCall 1 rf__law_whole (aCons (eB dIx (eVar 0) (eC (.int 1))) aNil)))) (eTest (eB dLt (eB dIx (eVar 0) (eC (.int 1))) (eC (.int 1))))))
 (sRet (eC (.bl false)))
 sSkip)
 (sRet (eB dEq (eCall 2 rf__law_common (aCons (eL dAbs (aCons (eB dIx (eVar 0) (eC (.int 0))) aNil)) (aCons (eB dIx (eVar 0) (eC (.int 1))) aNil))) (eC (.int 1))))))
def rf__law_quotient : List D → Sto → Res D := runDef 1 ev__law_quotient

abbrev N__law_small : List Str := ["_law_pool_here"]
def ev__law_small : Es :=
 (sRet (eCall 2 rf__law_low (aCons (eB dSub (eCall 2 rf__law_take (aCons (eVar 0) (aCons (eC (.int 25)) aNil))) (eC (.int 12))) (aCons (eB dAdd (eC (.int 1)) (eCall 2 rf__law_take (aCons (eVar 0) (aCons (eC (.int 12)) aNil)))) aNil))))
def rf__law_small : List D → Sto → Res D := runDef 1 ev__law_small

abbrev N__law_great : List Str := ["_law_pool_here", "_law_heads", "_law_number"]
def ev__law_great : Es :=
 (sSeq (sAsg 1 (eLst (aCons (eB dPow (eC (.int 10)) (eC (.int 9))) (aCons (eB dPow (eC (.int 10)) (eC (.int 20))) (aCons (eB dPow (eC (.int 10)) (eC (.int 40))) (aCons (eB dPow (eC (.int 10)) (eC (.int 59))) aNil))))))
 (sSeq (sAsg 2 (eB dAdd (eB dIx (eVar 1) (eCall 2 rf__law_take (aCons (eVar 0) (aCons (eC (.int 4)) aNil)))) (eCall 2 rf__law_take (aCons (eVar 0) (aCons (eC (.int 1000)) aNil)))))
 (sSeq (sIf (eTest (eB dEq (eCall 2 rf__law_take (aCons (eVar 0) (aCons (eC (.int 2)) aNil))) (eC (.int 1))))
 (sRet (eB dSub (eC (.int 0)) (eVar 2)))
 sSkip)
 (sRet (eVar 2)))))
def rf__law_great : List D → Sto → Res D := runDef 3 ev__law_great

abbrev N__law_value : List Str := ["_law_pool_here", "_law_pick", "_law_odd", "_law_times_by", "_law_held"]
def ev__law_value : Es :=
 (sSeq (sAsg 1 (eCall 2 rf__law_take (aCons (eVar 0) (aCons (eC (.int 16)) aNil))))
 (sSeq (sIf (eTest (eB dLt (eVar 1) (eC (.int 6))))
 (sRet (eCall 1 rf__law_small (aCons (eVar 0) aNil)))
 sSkip)
 (sSeq (sIf (eTest (eB dEq (eVar 1) (eC (.int 6))))
 (sRet (eCall 2 rf__law_low (aCons (eCall 1 rf__law_great (aCons (eVar 0) aNil)) (aCons (eL dAbs (aCons (eCall 1 rf__law_great (aCons (eVar 0) aNil)) aNil)) aNil))))
 sSkip)
 (sSeq (sIf (eTest (eB dEq (eVar 1) (eC (.int 7))))
 (sRet (eTup (aCons (eB dSub (eCall 2 rf__law_take (aCons (eVar 0) (aCons (eC (.int 9)) aNil))) (eC (.int 4))) (aCons (eB dSub (eCall 2 rf__law_take (aCons (eVar 0) (aCons (eC (.int 7)) aNil))) (eC (.int 2))) aNil))))
 sSkip)
 (sSeq (sIf (eTest (eB dEq (eVar 1) (eC (.int 8))))
 (sRet (eB dIx (eLst (aCons (eTup (aCons (eC (.bl true)) (aCons (eC (.int 1)) aNil))) (aCons (eTup (aCons (eC (.int 1)) (aCons (eC (.bl true)) aNil))) (aCons (eTup (aCons (eC (.bl false)) (aCons (eC (.int 1)) aNil))) (aCons (eTup (aCons (eC (.int 0)) (aCons (eC (.bl true)) aNil))) (aCons (eTup (aCons (eC (.int 2)) (aCons (eC (.bl true)) aNil))) (aCons (eTup (aCons (eC (.bl true)) (aCons (eC (.int 2)) aNil))) aNil))))))) (eCall 2 rf__law_take (aCons (eVar 0) (aCons (eC (.int 6)) aNil)))))
 sSkip)
 (sSeq (sIf (eTest (eB dEq (eVar 1) (eC (.int 9))))
 (sSeq (sAsg 2 (eLst (aCons (eC .non) (aCons (eC (.str "")) (aCons (eC (.str "1/2")) (aCons (eC (.str "1")) (aCons (eLst (aCons (eC (.int 1)) (aCons (eC (.int 2)) aNil))) (aCons (eTup (aCons (eC (.int 1)) aNil)) (aCons (eTup (aCons (eC (.int 1)) (aCons (eC (.int 2)) (aCons (eC (.int 3)) aNil)))) (aCons (eTup aNil) (aCons (eTup (aCons (eTup (aCons (eC (.int 1)) (aCons (eC (.int 2)) aNil))) aNil)) (aCons (eTup (aCons (eC (.int 1)) (aCons (eC .non) aNil))) (aCons (eTup (aCons (eC (.str "1")) (aCons (eC (.int 2)) aNil))) (aCons (eTup (aCons (eC (.int 1)) (aCons (eC (.str "2")) aNil))) (aCons (eC (.bl true)) (aCons (eC (.bl false)) aNil))))))))))))))))
 (sRet (eB dIx (eVar 2) (eCall 2 rf__law_take (aCons (eVar 0) (aCons (eC (.int 14)) aNil))))))
 sSkip)
 (sSeq (sIf (eTest (eB dLt (eVar 1) (eC (.int 12))))
 (sRet (eB dSub (eCall 2 rf__law_take (aCons (eVar 0) (aCons (eC (.int 13)) aNil))) (eC (.int 6))))
 sSkip)
 (sSeq (sIf (eTest (eB dEq (eVar 1) (eC (.int 12))))
 (sRet (eCall 1 rf__law_great (aCons (eVar 0) aNil)))
 sSkip)
 (sSeq (sIf (eTest (eB dEq (eVar 1) (eC (.int 13))))
 (sRet (eTup (aCons (eC (.int 0)) (aCons (eC (.int 1)) aNil))))
 sSkip)
 (sSeq (sIf (eTest (eB dEq (eVar 1) (eC (.int 14))))
 (sRet (eL dListOf (aCons (eCall 1 rf__law_small (aCons (eVar 0) aNil)) aNil)))
 sSkip)
 (sSeq (sAsg 3 (eB dAdd (eC (.int 1)) (eCall 2 rf__law_take (aCons (eVar 0) (aCons (eC (.int 4)) aNil)))))
 (sSeq (sAsg 4 (eCall 1 rf__law_small (aCons (eVar 0) aNil)))
 (sRet (eTup (aCons (eB dMul (eB dIx (eVar 4) (eC (.int 0))) (eVar 3)) (aCons (eB dMul (eB dIx (eVar 4) (eC (.int 1))) (eVar 3)) aNil))))))))))))))))
def rf__law_value : List D → Sto → Res D := runDef 5 ev__law_value

abbrev N__law_like : List Str := ["_law_told", "_law_due", "_law_k"]
def ev__law_like (self : List D → Sto → Res D) : Es :=
 (sSeq (sIf (eTest (eU (dIsi "tuple") (eVar 1)))
 (sSeq (sIf (eOrT (eNotT (eTest (eU (dIsi "tuple") (eVar 0)))) (eTest (eB dNe (eL dLen (aCons (eVar 0) aNil)) (eL dLen (aCons (eVar 1) aNil)))))
 (sRet (eC (.bl false)))
 sSkip)
 (sSeq (sFor (iRange rng1 (aCons (eL dLen (aCons (eVar 1) aNil)) aNil)) (bName 2)
 (sIf (eNotT (eTest (eCall 2 self (aCons (eB dIx (eVar 0) (eVar 2)) (aCons (eB dIx (eVar 1) (eVar 2)) aNil)))))
 (sRet (eC (.bl false)))
 sSkip))
 (sRet (eC (.bl true)))))
 sSkip)
 (sSeq (sIf (eTest (eU (dIsi "bool") (eVar 1)))
 (sRet (eAnd (eU (dIsi "bool") (eVar 0)) (eB dEq (eVar 0) (eVar 1))))
 sSkip)
 (sSeq (sIf (eTest (eU (dIsi "int") (eVar 1)))
 (sRet (eAnd (eCall 1 rf__law_whole (aCons (eVar 0) aNil)) (eB dEq (eVar 0) (eVar 1))))
 sSkip)
 (sRet (eAnd (eU (dIsi "str") (eVar 0)) (eB dEq (eVar 0) (eVar 1)))))))
def rr__law_like : Nat → List D → Sto → Res D
  | 0 => fun _ _ => .stuck
  | n + 1 => runDef 3 (ev__law_like (rr__law_like n))
def rf__law_like : List D → Sto → Res D := rr__law_like 6

abbrev N__law_kin : List Str := ["_law_e"]
def ev__law_kin : Es :=
 (sSeq (sIf (eOrT (eNotT (eTest (eU (dIsV (("InvalidEvent", false) :: (("InvalidPaper", false) :: (("InvalidSketch", false) :: (("InvalidText", false) :: (("NotUsable", true) :: (("NothingToUndo", false) :: (("Unfit", true) :: [])))))))) (eVar 0)))) (eOrT (eNotT (eTest (eU (dIsV (("InvalidEvent", true) :: (("InvalidPaper", true) :: (("InvalidSketch", true) :: (("InvalidText", true) :: (("NotUsable", true) :: (("NothingToUndo", true) :: (("Unfit", true) :: [])))))))) (eVar 0)))) (eNotT (eTest (eU (dIsV (("InvalidEvent", true) :: (("InvalidPaper", true) :: (("InvalidSketch", true) :: (("InvalidText", true) :: (("NotUsable", true) :: (("NothingToUndo", true) :: (("Unfit", true) :: [])))))))) (eVar 0))))))
 (sRet (eC (.bl false)))
 sSkip)
 (sSeq (sIf (eOrT (eTest (eU (dIsV (("InvalidEvent", false) :: (("InvalidPaper", true) :: (("InvalidSketch", false) :: (("InvalidText", false) :: (("NotUsable", false) :: (("NothingToUndo", false) :: (("Unfit", false) :: [])))))))) (eVar 0))) (eOrT (eTest (eU (dIsV (("InvalidEvent", true) :: (("InvalidPaper", false) :: (("InvalidSketch", false) :: (("InvalidText", false) :: (("NotUsable", false) :: (("NothingToUndo", true) :: (("Unfit", false) :: [])))))))) (eVar 0))) (eTest (eU (dIsV (("InvalidEvent", false) :: (("InvalidPaper", false) :: (("InvalidSketch", true) :: (("InvalidText", true) :: (("NotUsable", false) :: (("NothingToUndo", false) :: (("Unfit", false) :: [])))))))) (eVar 0)))))
 (sRet (eC (.bl false)))
 sSkip)
 (sRet (eNot (eU (dIsV (("InvalidEvent", false) :: (("InvalidPaper", false) :: (("InvalidSketch", false) :: (("InvalidText", false) :: (("NotUsable", false) :: (("NothingToUndo", false) :: (("Unfit", true) :: [])))))))) (eVar 0))))))
def rf__law_kin : List D → Sto → Res D := runDef 1 ev__law_kin

abbrev N__law_two : List Str := ["_law_deed", "_law_left", "_law_right", "_law_named", "_law_e"]
def ev__law_two : Es :=
 (sTryAs 4 (dec1 "NotUsable") (sSeq (sIf (eTest (eB dEq (eVar 0) (eC (.int 0))))
 (sRet (eTup (aCons (eC (.str "told")) (aCons (eIf (eTest (eVar 3)) (eKw 0 2 2 pm10 rf_plus aNil (aCons (eVar 2) (aCons (eVar 1) aNil))) (eCall 2 rf_plus (aCons (eVar 1) (aCons (eVar 2) aNil)))) aNil))))
 sSkip)
 (sSeq (sIf (eTest (eB dEq (eVar 0) (eC (.int 1))))
 (sRet (eTup (aCons (eC (.str "told")) (aCons (eIf (eTest (eVar 3)) (eKw 0 2 2 pm10 rf_minus aNil (aCons (eVar 2) (aCons (eVar 1) aNil))) (eCall 2 rf_minus (aCons (eVar 1) (aCons (eVar 2) aNil)))) aNil))))
 sSkip)
 (sSeq (sIf (eTest (eB dEq (eVar 0) (eC (.int 2))))
 (sRet (eTup (aCons (eC (.str "told")) (aCons (eIf (eTest (eVar 3)) (eKw 0 2 2 pm10 rf_times aNil (aCons (eVar 2) (aCons (eVar 1) aNil))) (eCall 2 rf_times (aCons (eVar 1) (aCons (eVar 2) aNil)))) aNil))))
 sSkip)
 (sSeq (sIf (eTest (eB dEq (eVar 0) (eC (.int 3))))
 (sRet (eTup (aCons (eC (.str "told")) (aCons (eIf (eTest (eVar 3)) (eKw 0 2 2 pm10 rf_over aNil (aCons (eVar 2) (aCons (eVar 1) aNil))) (eCall 2 rf_over (aCons (eVar 1) (aCons (eVar 2) aNil)))) aNil))))
 sSkip)
 (sSeq (sIf (eTest (eB dEq (eVar 0) (eC (.int 4))))
 (sRet (eTup (aCons (eC (.str "told")) (aCons (eIf (eTest (eVar 3)) (eKw 0 2 2 pm10 rf_is_less aNil (aCons (eVar 2) (aCons (eVar 1) aNil))) (eCall 2 rf_is_less (aCons (eVar 1) (aCons (eVar 2) aNil)))) aNil))))
 sSkip)
 (sSeq (sIf (eTest (eB dEq (eVar 0) (eC (.int 5))))
 (sRet (eTup (aCons (eC (.str "told")) (aCons (eIf (eTest (eVar 3)) (eKw 0 2 2 pm10 rf_is_shapes aNil (aCons (eVar 2) (aCons (eVar 1) aNil))) (eCall 2 rf_is_shapes (aCons (eVar 1) (aCons (eVar 2) aNil)))) aNil))))
 sSkip)
 (sSeq (sIf (eTest (eB dEq (eVar 0) (eC (.int 6))))
 (sRet (eTup (aCons (eC (.str "told")) (aCons (eIf (eTest (eVar 3)) (eKw 0 2 2 pm10 rf_is_table aNil (aCons (eVar 2) (aCons (eVar 1) aNil))) (eCall 2 rf_is_table (aCons (eVar 1) (aCons (eVar 2) aNil)))) aNil))))
 sSkip)
 (sRet (eTup (aCons (eC (.str "told")) (aCons (eIf (eTest (eVar 3)) (eKw 0 2 2 pm10 rf_is_place aNil (aCons (eVar 2) (aCons (eVar 1) aNil))) (eCall 2 rf_is_place (aCons (eVar 1) (aCons (eVar 2) aNil)))) aNil))))))))))) (sSeq (sIf (eNotT (eTest (eCall 1 rf__law_kin (aCons (eVar 4) aNil))))
 (sRet (eTup (aCons (eC (.str "strange")) aNil)))
 sSkip)
 (sRet (eTup (aCons (eC (.str "refused")) (aCons (eXf "NotUsable" "word" (eVar 4)) (aCons (eXf "NotUsable" "at" (eVar 4)) aNil)))))))
def rf__law_two : List D → Sto → Res D := runDef 5 ev__law_two

abbrev N__law_single : List Str := ["_law_deed", "_law_value_here", "_law_named", "_law_e"]
def ev__law_single : Es :=
 (sTryAs 3 (dec1 "NotUsable") (sSeq (sIf (eTest (eB dEq (eVar 0) (eC (.int 0))))
 (sRet (eTup (aCons (eC (.str "told")) (aCons (eIf (eTest (eVar 2)) (eKw 0 1 1 pm01 rf_is_integer aNil (aCons (eVar 1) aNil)) (eCall 1 rf_is_integer (aCons (eVar 1) aNil))) aNil))))
 sSkip)
 (sSeq (sIf (eTest (eB dEq (eVar 0) (eC (.int 1))))
 (sRet (eTup (aCons (eC (.str "told")) (aCons (eIf (eTest (eVar 2)) (eKw 0 1 1 pm01 rf_is_quotient aNil (aCons (eVar 1) aNil)) (eCall 1 rf_is_quotient (aCons (eVar 1) aNil))) aNil))))
 sSkip)
 (sSeq (sIf (eTest (eB dEq (eVar 0) (eC (.int 2))))
 (sRet (eTup (aCons (eC (.str "told")) (aCons (eIf (eTest (eVar 2)) (eKw 0 1 1 pm01 rf_is_positive aNil (aCons (eVar 1) aNil)) (eCall 1 rf_is_positive (aCons (eVar 1) aNil))) aNil))))
 sSkip)
 (sSeq (sIf (eTest (eB dEq (eVar 0) (eC (.int 3))))
 (sRet (eTup (aCons (eC (.str "told")) (aCons (eIf (eTest (eVar 2)) (eKw 0 1 1 pm01 rf_side_after aNil (aCons (eVar 1) aNil)) (eCall 1 rf_side_after (aCons (eVar 1) aNil))) aNil))))
 sSkip)
 (sSeq (sIf (eTest (eB dEq (eVar 0) (eC (.int 4))))
 (sRet (eTup (aCons (eC (.str "told")) (aCons (eIf (eTest (eVar 2)) (eKw 0 1 1 pm01 rf_side_opposite aNil (aCons (eVar 1) aNil)) (eCall 1 rf_side_opposite (aCons (eVar 1) aNil))) aNil))))
 sSkip)
 (sRet (eTup (aCons (eC (.str "told")) (aCons (eIf (eTest (eVar 2)) (eKw 0 1 1 pm01 rf_place_letter aNil (aCons (eVar 1) aNil)) (eCall 1 rf_place_letter (aCons (eVar 1) aNil))) aNil))))))))) (sSeq (sIf (eNotT (eTest (eCall 1 rf__law_kin (aCons (eVar 3) aNil))))
 (sRet (eTup (aCons (eC (.str "strange")) aNil)))
 sSkip)
 (sRet (eTup (aCons (eC (.str "refused")) (aCons (eXf "NotUsable" "word" (eVar 3)) (aCons (eXf "NotUsable" "at" (eVar 3)) aNil)))))))
def rf__law_single : List D → Sto → Res D := runDef 4 ev__law_single

abbrev N__law_all_of : List Str := ["_law_count", "_law_value_here", "_law_least", "_law_part"]
def ev__law_all_of : Es :=
 (sSeq (sIf (eOrT (eNotT (eTest (eU (dIsi "tuple") (eVar 1)))) (eTest (eB dNe (eL dLen (aCons (eVar 1) aNil)) (eVar 0))))
 (sRet (eC (.bl false)))
 sSkip)
 (sSeq (sFor (iSeq (eVar 1)) (bName 3)
 (sIf (eOrT (eNotT (eTest (eCall 1 rf__law_quotient (aCons (eVar 3) aNil)))) (eTest (eB dLt (eB dIx (eVar 3) (eC (.int 0))) (eVar 2))))
 (sRet (eC (.bl false)))
 sSkip))
 (sRet (eC (.bl true)))))
def rf__law_all_of : List D → Sto → Res D := runDef 4 ev__law_all_of

abbrev N__law_reckoned : List Str := ["_law_deed", "_law_left", "_law_right", "_law_told", "_law_top", "_law_bottom"]
def ev__law_reckoned : Es :=
 (sSeq (sIf (eTest (eB dEq (eVar 0) (eC (.int 4))))
 (sRet (eCall 2 rf__law_like (aCons (eVar 3) (aCons (eTup (aCons (eC (.str "told")) (aCons (eB dLt (eB dMul (eB dIx (eVar 1) (eC (.int 0))) (eB dIx (eVar 2) (eC (.int 1)))) (eB dMul (eB dIx (eVar 2) (eC (.int 0))) (eB dIx (eVar 1) (eC (.int 1))))) aNil))) aNil))))
 sSkip)
 (sSeq (sIf (eOrT (eNotT (eTest (eU (dIsi "tuple") (eVar 3)))) (eOrT (eTest (eB dNe (eL dLen (aCons (eVar 3) aNil)) (eC (.int 2)))) (eOrT (eTest (eB dNe (eB dIx (eVar 3) (eC (.int 0))) (eC (.str "told")))) (eNotT (eTest (eCall 1 rf__law_quotient (aCons (eB dIx (eVar 3) (eC (.int 1))) aNil)))))))
 (sRet (eC (.bl false)))
 sSkip)
 (sSeq (sAsg 4 (eB dAdd (eB dMul (eB dIx (eVar 1) (eC (.int 0))) (eB dIx (eVar 2) (eC (.int 1)))) (eB dMul (eB dIx (eVar 2) (eC (.int 0))) (eB dIx (eVar 1) (eC (.int 1))))))
 (sSeq (sAsg 5 (eB dMul (eB dIx (eVar 1) (eC (.int 1))) (eB dIx (eVar 2) (eC (.int 1)))))
 (sSeq (sIf (eTest (eB dEq (eVar 0) (eC (.int 1))))
 (sAsg 4 (eB dSub (eB dMul (eB dIx (eVar 1) (eC (.int 0))) (eB dIx (eVar 2) (eC (.int 1)))) (eB dMul (eB dIx (eVar 2) (eC (.int 0))) (eB dIx (eVar 1) (eC (.int 1))))))
 sSkip)
 (sSeq (sIf (eTest (eB dEq (eVar 0) (eC (.int 2))))
 (sAsg 4 (eB dMul (eB dIx (eVar 1) (eC (.int 0))) (eB dIx (eVar 2) (eC (.int 0)))))
 sSkip)
 (sSeq (sIf (eTest (eB dEq (eVar 0) (eC (.int 3))))
 (sSeq (sAsg 4 (eB dMul (eB dIx (eVar 1) (eC (.int 0))) (eB dIx (eVar 2) (eC (.int 1)))))
 (sAsg 5 (eB dMul (eB dIx (eVar 1) (eC (.int 1))) (eB dIx (eVar 2) (eC (.int 0))))))
 sSkip)
 (sRet (eB dEq (eB dMul (eB dIx (eB dIx (eVar 3) (eC (.int 1))) (eC (.int 0))) (eVar 5)) (eB dMul (eB dIx (eB dIx (eVar 3) (eC (.int 1))) (eC (.int 1))) (eVar 4)))))))))))
def rf__law_reckoned : List D → Sto → Res D := runDef 6 ev__law_reckoned

abbrev N__law_pair : List Str := ["_law_deed", "_law_left", "_law_right", "_law_named", "_law_told"]
def ev__law_pair : Es :=
 (sSeq (sAsg 4 (eCall 4 rf__law_two (aCons (eVar 0) (aCons (eVar 1) (aCons (eVar 2) (aCons (eVar 3) aNil))))))
 (sSeq (sIf (eTest (eB dGt (eVar 0) (eC (.int 4))))
 (sSeq (sIf (eOrT (eNotT (eTest (eCall 1 rf__law_whole (aCons (eVar 1) aNil)))) (eTest (eB dLt (eVar 1) (eC (.int 0)))))
 (sRet (eCall 2 rf__law_like (aCons (eVar 4) (aCons (eTup (aCons (eC (.str "refused")) (aCons (eC (.str "many")) (aCons (eU dNeg (eC (.int 1))) aNil)))) aNil))))
 sSkip)
 (sSeq (sIf (eTest (eB dEq (eVar 0) (eC (.int 7))))
 (sRet (eCall 2 rf__law_like (aCons (eVar 4) (aCons (eTup (aCons (eC (.str "told")) (aCons (eAnd (eCall 1 rf__law_whole (aCons (eVar 2) aNil)) (eAnd (eB dLe (eU dNeg (eC (.int 4))) (eVar 2)) (eB dLt (eVar 2) (eVar 1)))) aNil))) aNil))))
 sSkip)
 (sRet (eCall 2 rf__law_like (aCons (eVar 4) (aCons (eTup (aCons (eC (.str "told")) (aCons (eCall 3 rf__law_all_of (aCons (eVar 1) (aCons (eVar 2) (aCons (eB dSub (eC (.int 6)) (eVar 0)) aNil)))) aNil))) aNil))))))
 sSkip)
 (sSeq (sIf (eNotT (eTest (eCall 1 rf__law_quotient (aCons (eVar 1) aNil))))
 (sRet (eCall 2 rf__law_like (aCons (eVar 4) (aCons (eTup (aCons (eC (.str "refused")) (aCons (eC (.str "one")) (aCons (eU dNeg (eC (.int 1))) aNil)))) aNil))))
 sSkip)
 (sSeq (sIf (eOrT (eNotT (eTest (eCall 1 rf__law_quotient (aCons (eVar 2) aNil)))) (eAndT (eTest (eB dEq (eVar 0) (eC (.int 3)))) (eTest (eB dEq (eB dIx (eVar 2) (eC (.int 0))) (eC (.int 0))))))
 (sRet (eCall 2 rf__law_like (aCons (eVar 4) (aCons (eTup (aCons (eC (.str "refused")) (aCons (eC (.str "other")) (aCons (eU dNeg (eC (.int 1))) aNil)))) aNil))))
 sSkip)
 (sRet (eCall 4 rf__law_reckoned (aCons (eVar 0) (aCons (eVar 1) (aCons (eVar 2) (aCons (eVar 4) aNil))))))))))
def rf__law_pair : List D → Sto → Res D := runDef 5 ev__law_pair

abbrev N__law_alone : List Str := ["_law_value_here", "_law_named", "_law_is_side", "_law_dues", "_law_deed"]
def ev__law_alone : Es :=
 (sSeq (sAsg 2 (eAnd (eCall 1 rf__law_whole (aCons (eVar 0) aNil)) (eAnd (eB dLe (eU dNeg (eC (.int 4))) (eVar 0)) (eB dLt (eVar 0) (eC (.int 0))))))
 (sSeq (sAsg 3 (eLst (aCons (eTup (aCons (eC (.str "told")) (aCons (eCall 1 rf__law_whole (aCons (eVar 0) aNil)) aNil))) (aCons (eTup (aCons (eC (.str "told")) (aCons (eCall 1 rf__law_quotient (aCons (eVar 0) aNil)) aNil))) aNil))))
 (sSeq (sExpr (eMt mAppend (eVar 3) (aCons (eTup (aCons (eC (.str "told")) (aCons (eAnd (eCall 1 rf__law_quotient (aCons (eVar 0) aNil)) (eB dGt (eB dIx (eVar 0) (eC (.int 0))) (eC (.int 0)))) aNil))) aNil)))
 (sSeq (sIf (eTest (eVar 2))
 (sSeq (sExpr (eMt mAppend (eVar 3) (aCons (eTup (aCons (eC (.str "told")) (aCons (eB dIx (eLst (aCons (eU dNeg (eC (.int 3))) (aCons (eU dNeg (eC (.int 2))) (aCons (eU dNeg (eC (.int 1))) (aCons (eU dNeg (eC (.int 4))) aNil))))) (eB dAdd (eVar 0) (eC (.int 4)))) aNil))) aNil)))
 (sSeq (sExpr (eMt mAppend (eVar 3) (aCons (eTup (aCons (eC (.str "told")) (aCons (eB dIx (eLst (aCons (eU dNeg (eC (.int 2))) (aCons (eU dNeg (eC (.int 1))) (aCons (eU dNeg (eC (.int 4))) (aCons (eU dNeg (eC (.int 3))) aNil))))) (eB dAdd (eVar 0) (eC (.int 4)))) aNil))) aNil)))
 (sExpr (eMt mAppend (eVar 3) (aCons (eTup (aCons (eC (.str "told")) (aCons (eB dIx (eC (.str "WNES")) (eB dAdd (eVar 0) (eC (.int 4)))) aNil))) aNil)))))
 (sSeq (sExpr (eMt mAppend (eVar 3) (aCons (eTup (aCons (eC (.str "refused")) (aCons (eC (.str "side")) (aCons (eU dNeg (eC (.int 1))) aNil)))) aNil)))
 (sSeq (sExpr (eMt mAppend (eVar 3) (aCons (eTup (aCons (eC (.str "refused")) (aCons (eC (.str "side")) (aCons (eU dNeg (eC (.int 1))) aNil)))) aNil)))
 (sIf (eAndT (eTest (eCall 1 rf__law_whole (aCons (eVar 0) aNil))) (eTest (eB dGe (eVar 0) (eC (.int 0)))))
 (sExpr (eMt mAppend (eVar 3) (aCons (eTup (aCons (eC (.str "told")) (aCons (eL dStr (aCons (eVar 0) aNil)) aNil))) aNil)))
 (sExpr (eMt mAppend (eVar 3) (aCons (eTup (aCons (eC (.str "refused")) (aCons (eC (.str "place")) (aCons (eU dNeg (eC (.int 1))) aNil)))) aNil)))))))
 (sSeq (sFor (iRange rng1 (aCons (eC (.int 6)) aNil)) (bName 4)
 (sIf (eNotT (eTest (eCall 2 rf__law_like (aCons (eCall 3 rf__law_single (aCons (eVar 4) (aCons (eVar 0) (aCons (eVar 1) aNil)))) (aCons (eB dIx (eVar 3) (eVar 4)) aNil)))))
 (sRet (eC (.bl false)))
 sSkip))
 (sRet (eC (.bl true))))))))
def rf__law_alone : List D → Sto → Res D := runDef 5 ev__law_alone

abbrev N__law_papers : List Str := ["_law_first", "_law_second", "_law_left", "_law_right", "_law_made", "_law_usable", "_law_sketch", "_law_e"]
def ev__law_papers : Es :=
 (sSeq (sAsg 2 (eLst (aCons (eVar 0) aNil)))
 (sSeq (sAsg 3 (eLst (aCons (eVar 1) aNil)))
 (sSeq (sAsg 4 (eLst (aCons (eErr "InvalidPaper" ["word", "at"] 2 0 pmA (aCons (eVar 2) (aCons (eVar 3) aNil)) aNil) (aCons (eErr "InvalidPaper" ["word", "at"] 0 2 pm10 aNil (aCons (eVar 3) (aCons (eVar 2) aNil))) aNil))))
 (sSeq (sAsg 5 (eLst (aCons (eErr "NotUsable" ["word", "at"] 2 0 pmA (aCons (eVar 2) (aCons (eVar 3) aNil)) aNil) (aCons (eErr "NotUsable" ["word", "at"] 0 2 pm10 aNil (aCons (eVar 3) (aCons (eVar 2) aNil))) aNil))))
 (sSeq (sAsg 6 (eErr "InvalidSketch" ["word", "at"] 1 1 pmA (aCons (eVar 2) aNil) (aCons (eVar 3) aNil)))
 (sSeq (sExpr (eMt mAppend (eVar 2) (aCons (eC (.int 4)) aNil)))
 (sSeq (sExpr (eMt mAppend (eVar 3) (aCons (eVar 1) aNil)))
 (sSeq (sFor (iSeq (eVar 4)) (bName 7)
 (sSeq (sIf (eOrT (eTest (eB dNe (eXv (("InvalidEvent", ["event", "reason"]) :: (("InvalidPaper", ["word", "at"]) :: (("InvalidSketch", ["word", "at"]) :: (("InvalidText", ["line", "field"]) :: (("NotUsable", ["word", "at"]) :: (("NothingToUndo", ["steps"]) :: (("Unfit", ["barring"]) :: []))))))) "word" (eVar 7)) (eVar 2))) (eOrT (eTest (eB dNe (eXv (("InvalidEvent", ["event", "reason"]) :: (("InvalidPaper", ["word", "at"]) :: (("InvalidSketch", ["word", "at"]) :: (("InvalidText", ["line", "field"]) :: (("NotUsable", ["word", "at"]) :: (("NothingToUndo", ["steps"]) :: (("Unfit", ["barring"]) :: []))))))) "at" (eVar 7)) (eVar 3))) (eOrT (eNotT (eTest (eU (dIsV (("InvalidEvent", false) :: (("InvalidPaper", true) :: (("InvalidSketch", false) :: (("InvalidText", false) :: (("NotUsable", false) :: (("NothingToUndo", false) :: (("Unfit", false) :: [])))))))) (eVar 7)))) (eTest (eU (dIsV (("InvalidEvent", false) :: (("InvalidPaper", false) :: (("InvalidSketch", false) :: (("InvalidText", false) :: (("NotUsable", true) :: (("NothingToUndo", false) :: (("Unfit", true) :: [])))))))) (eVar 7))))))
 (sRet (eC (.bl false)))
 sSkip)
 (sIf (eOrT (eNotT (eTest (eU (dIsV (("InvalidEvent", true) :: (("InvalidPaper", true) :: (("InvalidSketch", true) :: (("InvalidText", true) :: (("NotUsable", true) :: (("NothingToUndo", true) :: (("Unfit", true) :: [])))))))) (eVar 7)))) (eOrT (eNotT (eTest (eU (dIsV (("InvalidEvent", true) :: (("InvalidPaper", true) :: (("InvalidSketch", true) :: (("InvalidText", true) :: (("NotUsable", true) :: (("NothingToUndo", true) :: (("Unfit", true) :: [])))))))) (eVar 7)))) (eTest (eU (dIsV (("InvalidEvent", false) :: (("InvalidPaper", false) :: (("InvalidSketch", true) :: (("InvalidText", true) :: (("NotUsable", false) :: (("NothingToUndo", false) :: (("Unfit", false) :: [])))))))) (eVar 7)))))
 (sRet (eC (.bl false)))
 sSkip)))
 (sSeq (sFor (iSeq (eVar 5)) (bName 7)
 (sIf (eOrT (eTest (eB dNe (eXv (("InvalidEvent", ["event", "reason"]) :: (("InvalidPaper", ["word", "at"]) :: (("InvalidSketch", ["word", "at"]) :: (("InvalidText", ["line", "field"]) :: (("NotUsable", ["word", "at"]) :: (("NothingToUndo", ["steps"]) :: (("Unfit", ["barring"]) :: []))))))) "word" (eVar 7)) (eVar 2))) (eOrT (eTest (eB dNe (eXv (("InvalidEvent", ["event", "reason"]) :: (("InvalidPaper", ["word", "at"]) :: (("InvalidSketch", ["word", "at"]) :: (("InvalidText", ["line", "field"]) :: (("NotUsable", ["word", "at"]) :: (("NothingToUndo", ["steps"]) :: (("Unfit", ["barring"]) :: []))))))) "at" (eVar 7)) (eVar 3))) (eNotT (eTest (eCall 1 rf__law_kin (aCons (eVar 7) aNil))))))
 (sRet (eC (.bl false)))
 sSkip))
 (sSeq (sIf (eOrT (eTest (eB dNe (eXv (("InvalidEvent", ["event", "reason"]) :: (("InvalidPaper", ["word", "at"]) :: (("InvalidSketch", ["word", "at"]) :: (("InvalidText", ["line", "field"]) :: (("NotUsable", ["word", "at"]) :: (("NothingToUndo", ["steps"]) :: (("Unfit", ["barring"]) :: []))))))) "word" (eVar 6)) (eVar 2))) (eOrT (eTest (eB dNe (eXv (("InvalidEvent", ["event", "reason"]) :: (("InvalidPaper", ["word", "at"]) :: (("InvalidSketch", ["word", "at"]) :: (("InvalidText", ["line", "field"]) :: (("NotUsable", ["word", "at"]) :: (("NothingToUndo", ["steps"]) :: (("Unfit", ["barring"]) :: []))))))) "at" (eVar 6)) (eVar 3))) (eOrT (eTest (eU (dIsV (("InvalidEvent", false) :: (("InvalidPaper", true) :: (("InvalidSketch", false) :: (("InvalidText", false) :: (("NotUsable", false) :: (("NothingToUndo", false) :: (("Unfit", false) :: [])))))))) (eVar 6))) (eTest (eU (dIsV (("InvalidEvent", false) :: (("InvalidPaper", false) :: (("InvalidSketch", false) :: (("InvalidText", false) :: (("NotUsable", true) :: (("NothingToUndo", false) :: (("Unfit", true) :: [])))))))) (eVar 6))))))
 (sRet (eC (.bl false)))
 sSkip)
 (sRet (eAnd (eU (dIsV (("InvalidEvent", false) :: (("InvalidPaper", false) :: (("InvalidSketch", true) :: (("InvalidText", true) :: (("NotUsable", false) :: (("NothingToUndo", false) :: (("Unfit", false) :: [])))))))) (eVar 6)) (eAnd (eU (dIsV (("InvalidEvent", true) :: (("InvalidPaper", true) :: (("InvalidSketch", true) :: (("InvalidText", true) :: (("NotUsable", true) :: (("NothingToUndo", true) :: (("Unfit", true) :: [])))))))) (eVar 6)) (eNot (eU (dIsV (("InvalidEvent", false) :: (("InvalidPaper", false) :: (("InvalidSketch", false) :: (("InvalidText", true) :: (("NotUsable", false) :: (("NothingToUndo", false) :: (("Unfit", false) :: [])))))))) (eVar 6))))))))))))))))
def rf__law_papers : List D → Sto → Res D := runDef 8 ev__law_papers

abbrev N__law_errors : List Str := ["_law_first", "_law_second", "_law_left", "_law_right", "_law_unfit", "_law_deed", "_law_undo", "_law_text", "_law_e"]
def ev__law_errors : Es :=
 (sSeq (sAsg 2 (eLst (aCons (eVar 0) aNil)))
 (sSeq (sAsg 3 (eLst (aCons (eVar 1) aNil)))
 (sSeq (sAsg 4 (eErr "Unfit" ["barring"] 0 1 pm01 aNil (aCons (eVar 2) aNil)))
 (sSeq (sAsg 5 (eErr "InvalidEvent" ["event", "reason"] 0 2 pm10 aNil (aCons (eVar 3) (aCons (eVar 2) aNil))))
 (sSeq (sAsg 6 (eErr "NothingToUndo" ["steps"] 1 0 pmA (aCons (eVar 2) aNil) aNil))
 (sSeq (sAsg 7 (eErr "InvalidText" ["line", "field"] 1 1 pmA (aCons (eVar 2) aNil) (aCons (eVar 3) aNil)))
 (sSeq (sExpr (eMt mAppend (eVar 2) (aCons (eVar 1) aNil)))
 (sSeq (sExpr (eMt mAppend (eVar 3) (aCons (eC (.int 4)) aNil)))
 (sSeq (sIf (eOrT (eTest (eB dNe (eXv (("InvalidEvent", ["event", "reason"]) :: (("InvalidPaper", ["word", "at"]) :: (("InvalidSketch", ["word", "at"]) :: (("InvalidText", ["line", "field"]) :: (("NotUsable", ["word", "at"]) :: (("NothingToUndo", ["steps"]) :: (("Unfit", ["barring"]) :: []))))))) "barring" (eVar 4)) (eVar 2))) (eOrT (eNotT (eTest (eU (dIsV (("InvalidEvent", false) :: (("InvalidPaper", false) :: (("InvalidSketch", false) :: (("InvalidText", false) :: (("NotUsable", true) :: (("NothingToUndo", false) :: (("Unfit", true) :: [])))))))) (eVar 4)))) (eTest (eU (dIsV (("InvalidEvent", false) :: (("InvalidPaper", false) :: (("InvalidSketch", false) :: (("InvalidText", false) :: (("NotUsable", true) :: (("NothingToUndo", false) :: (("Unfit", false) :: [])))))))) (eVar 4)))))
 (sRet (eC (.bl false)))
 sSkip)
 (sSeq (sIf (eOrT (eTest (eB dNe (eXv (("InvalidEvent", ["event", "reason"]) :: (("InvalidPaper", ["word", "at"]) :: (("InvalidSketch", ["word", "at"]) :: (("InvalidText", ["line", "field"]) :: (("NotUsable", ["word", "at"]) :: (("NothingToUndo", ["steps"]) :: (("Unfit", ["barring"]) :: []))))))) "event" (eVar 5)) (eVar 2))) (eOrT (eTest (eB dNe (eXv (("InvalidEvent", ["event", "reason"]) :: (("InvalidPaper", ["word", "at"]) :: (("InvalidSketch", ["word", "at"]) :: (("InvalidText", ["line", "field"]) :: (("NotUsable", ["word", "at"]) :: (("NothingToUndo", ["steps"]) :: (("Unfit", ["barring"]) :: []))))))) "reason" (eVar 5)) (eVar 3))) (eOrT (eNotT (eTest (eU (dIsV (("InvalidEvent", true) :: (("InvalidPaper", false) :: (("InvalidSketch", false) :: (("InvalidText", false) :: (("NotUsable", false) :: (("NothingToUndo", true) :: (("Unfit", false) :: [])))))))) (eVar 5)))) (eTest (eU (dIsV (("InvalidEvent", false) :: (("InvalidPaper", false) :: (("InvalidSketch", false) :: (("InvalidText", false) :: (("NotUsable", true) :: (("NothingToUndo", false) :: (("Unfit", true) :: [])))))))) (eVar 5))))))
 (sRet (eC (.bl false)))
 sSkip)
 (sSeq (sIf (eOrT (eTest (eB dNe (eXv (("InvalidEvent", ["event", "reason"]) :: (("InvalidPaper", ["word", "at"]) :: (("InvalidSketch", ["word", "at"]) :: (("InvalidText", ["line", "field"]) :: (("NotUsable", ["word", "at"]) :: (("NothingToUndo", ["steps"]) :: (("Unfit", ["barring"]) :: []))))))) "steps" (eVar 6)) (eVar 2))) (eOrT (eNotT (eTest (eU (dIsV (("InvalidEvent", true) :: (("InvalidPaper", false) :: (("InvalidSketch", false) :: (("InvalidText", false) :: (("NotUsable", false) :: (("NothingToUndo", true) :: (("Unfit", false) :: [])))))))) (eVar 6)))) (eTest (eU (dIsV (("InvalidEvent", true) :: (("InvalidPaper", false) :: (("InvalidSketch", false) :: (("InvalidText", false) :: (("NotUsable", false) :: (("NothingToUndo", false) :: (("Unfit", false) :: [])))))))) (eVar 6)))))
 (sRet (eC (.bl false)))
 sSkip)
 (sSeq (sIf (eOrT (eTest (eB dNe (eXv (("InvalidEvent", ["event", "reason"]) :: (("InvalidPaper", ["word", "at"]) :: (("InvalidSketch", ["word", "at"]) :: (("InvalidText", ["line", "field"]) :: (("NotUsable", ["word", "at"]) :: (("NothingToUndo", ["steps"]) :: (("Unfit", ["barring"]) :: []))))))) "line" (eVar 7)) (eVar 2))) (eOrT (eTest (eB dNe (eXv (("InvalidEvent", ["event", "reason"]) :: (("InvalidPaper", ["word", "at"]) :: (("InvalidSketch", ["word", "at"]) :: (("InvalidText", ["line", "field"]) :: (("NotUsable", ["word", "at"]) :: (("NothingToUndo", ["steps"]) :: (("Unfit", ["barring"]) :: []))))))) "field" (eVar 7)) (eVar 3))) (eOrT (eNotT (eTest (eU (dIsV (("InvalidEvent", false) :: (("InvalidPaper", false) :: (("InvalidSketch", true) :: (("InvalidText", true) :: (("NotUsable", false) :: (("NothingToUndo", false) :: (("Unfit", false) :: [])))))))) (eVar 7)))) (eTest (eU (dIsV (("InvalidEvent", false) :: (("InvalidPaper", false) :: (("InvalidSketch", true) :: (("InvalidText", false) :: (("NotUsable", false) :: (("NothingToUndo", false) :: (("Unfit", false) :: [])))))))) (eVar 7))))))
 (sRet (eC (.bl false)))
 sSkip)
 (sSeq (sFor (iSeq (eLst (aCons (eVar 4) (aCons (eVar 5) (aCons (eVar 6) (aCons (eVar 7) aNil)))))) (bName 8)
 (sIf (eOrT (eNotT (eTest (eU (dIsV (("InvalidEvent", true) :: (("InvalidPaper", true) :: (("InvalidSketch", true) :: (("InvalidText", true) :: (("NotUsable", true) :: (("NothingToUndo", true) :: (("Unfit", true) :: [])))))))) (eVar 8)))) (eOrT (eNotT (eTest (eU (dIsV (("InvalidEvent", true) :: (("InvalidPaper", true) :: (("InvalidSketch", true) :: (("InvalidText", true) :: (("NotUsable", true) :: (("NothingToUndo", true) :: (("Unfit", true) :: [])))))))) (eVar 8)))) (eTest (eU (dIsV (("InvalidEvent", false) :: (("InvalidPaper", true) :: (("InvalidSketch", false) :: (("InvalidText", false) :: (("NotUsable", false) :: (("NothingToUndo", false) :: (("Unfit", false) :: [])))))))) (eVar 8)))))
 (sRet (eC (.bl false)))
 sSkip))
 (sRet (eAnd (eNot (eU (dIsV (("InvalidEvent", false) :: (("InvalidPaper", false) :: (("InvalidSketch", false) :: (("InvalidText", false) :: (("NotUsable", false) :: (("NothingToUndo", true) :: (("Unfit", false) :: [])))))))) (eVar 5))) (eNot (eU (dIsV (("InvalidEvent", true) :: (("InvalidPaper", false) :: (("InvalidSketch", false) :: (("InvalidText", false) :: (("NotUsable", false) :: (("NothingToUndo", true) :: (("Unfit", false) :: [])))))))) (eVar 7))))))))))))))))))
def rf__law_errors : List D → Sto → Res D := runDef 9 ev__law_errors

abbrev N__law_long : List Str := ["_law_pool_here", "_law_head", "_law_left", "_law_right"]
def ev__law_long : Es :=
 (sSeq (sAsg 1 (eB dMul (eB dMul (eB dMul (eB dMul (eB dPow (eC (.int 10)) (eC (.int 60))) (eB dPow (eC (.int 10)) (eC (.int 60)))) (eB dPow (eC (.int 10)) (eC (.int 60)))) (eB dPow (eC (.int 10)) (eC (.int 60)))) (eB dPow (eC (.int 10)) (eC (.int 59)))))
 (sSeq (sAsg 2 (eCall 2 rf__law_low (aCons (eB dAdd (eVar 1) (eCall 2 rf__law_take (aCons (eVar 0) (aCons (eC (.int 100000)) aNil)))) (aCons (eB dSub (eB dSub (eB dMul (eC (.int 9)) (eVar 1)) (eC (.int 1))) (eCall 2 rf__law_take (aCons (eVar 0) (aCons (eC (.int 100000)) aNil)))) aNil))))
 (sSeq (sAsg 3 (eCall 2 rf__law_low (aCons (eB dSub (eCall 2 rf__law_take (aCons (eVar 0) (aCons (eC (.int 100000)) aNil))) (eVar 1)) (aCons (eB dAdd (eB dAdd (eB dMul (eC (.int 7)) (eVar 1)) (eC (.int 2))) (eCall 2 rf__law_take (aCons (eVar 0) (aCons (eC (.int 100000)) aNil)))) aNil))))
 (sRet (eLst (aCons (eVar 2) (aCons (eVar 3) aNil)))))))
def rf__law_long : List D → Sto → Res D := runDef 4 ev__law_long

abbrev N__law_row : List Str := ["_law_pool_here", "_law_length", "_law_held", "_law_spot", "_law_k", "_law_pick"]
def ev__law_row : Es :=
 (sSeq (sAsg 1 (eCall 2 rf__law_take (aCons (eVar 0) (aCons (eC (.int 6)) aNil))))
 (sSeq (sIf (eTest (eB dEq (eCall 2 rf__law_take (aCons (eVar 0) (aCons (eC (.int 8)) aNil))) (eC (.int 7))))
 (sSeq (sAsg 2 (eB dMul (eLst (aCons (eTup (aCons (eB dAdd (eC (.int 1)) (eCall 2 rf__law_take (aCons (eVar 0) (aCons (eC (.int 9)) aNil)))) (aCons (eC (.int 1)) aNil))) aNil)) (eC (.int 40))))
 (sSeq (sAsg 3 (eCall 2 rf__law_take (aCons (eVar 0) (aCons (eC (.int 40)) aNil))))
 (sRet (eB dAdd (eB dAdd (eSl (eVar 2) none (some (eVar 3))) (eLst (aCons (eCall 1 rf__law_value (aCons (eVar 0) aNil)) aNil))) (eSl (eVar 2) (some (eB dAdd (eVar 3) (eC (.int 1)))) none)))))
 sSkip)
 (sSeq (sAsg 2 (eLst aNil))
 (sSeq (sFor (iRange rng1 (aCons (eVar 1) aNil)) (bName 4)
 (sSeq (sAsg 5 (eCall 2 rf__law_take (aCons (eVar 0) (aCons (eC (.int 8)) aNil))))
 (sIf (eTest (eB dEq (eVar 5) (eC (.int 7))))
 (sExpr (eMt mAppend (eVar 2) (aCons (eCall 1 rf__law_value (aCons (eVar 0) aNil)) aNil)))
 (sIf (eTest (eB dEq (eVar 5) (eC (.int 6))))
 (sExpr (eMt mAppend (eVar 2) (aCons (eTup (aCons (eC (.int 0)) (aCons (eC (.int 1)) aNil))) aNil)))
 (sExpr (eMt mAppend (eVar 2) (aCons (eCall 2 rf__law_low (aCons (eB dAdd (eC (.int 1)) (eCall 2 rf__law_take (aCons (eVar 0) (aCons (eC (.int 12)) aNil)))) (aCons (eB dAdd (eC (.int 1)) (eCall 2 rf__law_take (aCons (eVar 0) (aCons (eC (.int 7)) aNil)))) aNil))) aNil)))))))
 (sRet (eVar 2))))))
def rf__law_row : List D → Sto → Res D := runDef 6 ev__law_row

abbrev N_law : List Str := ["_law_script", "_law_pool_here", "_law_named", "_law_values", "_law_good", "_law_value_here", "_law_deed", "_law_held", "_law_bad", "_law_count", "_law_first"]
def ev_law : Es :=
 (sSeq (sAsg 1 (eCall 1 rf__law_pool (aCons (eVar 0) aNil)))
 (sSeq (sAsg 2 (eB dEq (eCall 2 rf__law_take (aCons (eVar 1) (aCons (eC (.int 2)) aNil))) (eC (.int 1))))
 (sSeq (sAsg 3 (eLst (aCons (eCall 1 rf__law_value (aCons (eVar 1) aNil)) (aCons (eCall 1 rf__law_value (aCons (eVar 1) aNil)) (aCons (eCall 1 rf__law_value (aCons (eVar 1) aNil)) aNil)))))
 (sSeq (sAsg 4 (eLst (aCons (eCall 1 rf__law_small (aCons (eVar 1) aNil)) (aCons (eCall 1 rf__law_small (aCons (eVar 1) aNil)) aNil))))
 (sSeq (sIf (eTest (eB dEq (eCall 2 rf__law_take (aCons (eVar 1) (aCons (eC (.int 16)) aNil))) (eC (.int 15))))
 (sAsg 4 (eCall 1 rf__law_long (aCons (eVar 1) aNil)))
 sSkip)
 (sSeq (sFor (iSeq (eB dAdd (eVar 3) (eLst (aCons (eB dSub (eCall 2 rf__law_take (aCons (eVar 1) (aCons (eC (.int 9)) aNil))) (eC (.int 5))) (aCons (eCall 2 rf__law_take (aCons (eVar 1) (aCons (eC (.int 61)) aNil))) aNil))))) (bName 5)
 (sIf (eNotT (eTest (eCall 2 rf__law_alone (aCons (eVar 5) (aCons (eVar 2) aNil)))))
 (sRet (eC (.bl false)))
 sSkip))
 (sSeq (sFor (iRange rng1 (aCons (eC (.int 5)) aNil)) (bName 6)
 (sSeq (sIf (eOrT (eNotT (eTest (eCall 4 rf__law_pair (aCons (eVar 6) (aCons (eB dIx (eVar 4) (eC (.int 0))) (aCons (eB dIx (eVar 4) (eC (.int 1))) (aCons (eVar 2) aNil))))))) (eNotT (eTest (eCall 4 rf__law_pair (aCons (eVar 6) (aCons (eB dIx (eVar 4) (eC (.int 1))) (aCons (eB dIx (eVar 4) (eC (.int 1))) (aCons (eNot (eVar 2)) aNil))))))))
 (sRet (eC (.bl false)))
 sSkip)
 (sSeq (sIf (eOrT (eNotT (eTest (eCall 4 rf__law_pair (aCons (eVar 6) (aCons (eB dIx (eVar 4) (eC (.int 0))) (aCons (eB dIx (eVar 3) (eC (.int 0))) (aCons (eVar 2) aNil))))))) (eNotT (eTest (eCall 4 rf__law_pair (aCons (eVar 6) (aCons (eB dIx (eVar 3) (eC (.int 1))) (aCons (eB dIx (eVar 4) (eC (.int 1))) (aCons (eVar 2) aNil))))))))
 (sRet (eC (.bl false)))
 sSkip)
 (sIf (eNotT (eTest (eCall 4 rf__law_pair (aCons (eVar 6) (aCons (eB dIx (eVar 3) (eC (.int 2))) (aCons (eB dIx (eVar 3) (eC (.int 0))) (aCons (eNot (eVar 2)) aNil)))))))
 (sRet (eC (.bl false)))
 sSkip))))
 (sSeq (sAsg 7 (eCall 1 rf__law_row (aCons (eVar 1) aNil)))
 (sSeq (sAsg 8 (eB dIx (eLst (aCons (eU dNeg (eC (.int 1))) (aCons (eC (.bl true)) (aCons (eC (.bl false)) (aCons (eC .non) (aCons (eC (.str "2")) (aCons (eTup (aCons (eC (.int 2)) aNil)) (aCons (eLst (aCons (eC (.int 1)) aNil)) (aCons (eB dSub (eC (.int 0)) (eB dPow (eC (.int 10)) (eC (.int 59)))) (aCons (eTup (aCons (eC (.int 2)) (aCons (eC (.int 1)) aNil))) aNil)))))))))) (eCall 2 rf__law_take (aCons (eVar 1) (aCons (eC (.int 9)) aNil)))))
 (sSeq (sFor (iSeq (eLst (aCons (eL dLen (aCons (eVar 7) aNil)) (aCons (eL dMax (aCons (eC (.int 0)) (aCons (eB dSub (eL dLen (aCons (eVar 7) aNil)) (eC (.int 1))) aNil))) (aCons (eB dAdd (eL dLen (aCons (eVar 7) aNil)) (eC (.int 1))) (aCons (eC (.int 0)) (aCons (eB dPow (eC (.int 10)) (eC (.int 59))) (aCons (eVar 8) aNil)))))))) (bName 9)
 (sSeq (sFor (iSeq (eLst (aCons (eC (.int 5)) (aCons (eC (.int 6)) aNil)))) (bName 6)
 (sIf (eOrT (eNotT (eTest (eCall 4 rf__law_pair (aCons (eVar 6) (aCons (eVar 9) (aCons (eL dTupOf (aCons (eVar 7) aNil)) (aCons (eVar 2) aNil))))))) (eNotT (eTest (eCall 4 rf__law_pair (aCons (eVar 6) (aCons (eVar 9) (aCons (eL dListOf (aCons (eVar 7) aNil)) (aCons (eNot (eVar 2)) aNil))))))))
 (sRet (eC (.bl false)))
 sSkip))
 (sSeq (sIf (eOrT (eNotT (eTest (eCall 4 rf__law_pair (aCons (eC (.int 5)) (aCons (eVar 9) (aCons (eB dIx (eVar 3) (eC (.int 0))) (aCons (eVar 2) aNil))))))) (eNotT (eTest (eCall 4 rf__law_pair (aCons (eC (.int 6)) (aCons (eVar 9) (aCons (eTup aNil) (aCons (eVar 2) aNil))))))))
 (sRet (eC (.bl false)))
 sSkip)
 (sFor (iSeq (eLst (aCons (eB dIx (eVar 3) (eC (.int 1))) (aCons (eU dNeg (eC (.int 5))) (aCons (eU dNeg (eC (.int 4))) (aCons (eU dNeg (eC (.int 1))) (aCons (eC (.int 0)) (aCons (eB dSub (eL dLen (aCons (eVar 7) aNil)) (eC (.int 1))) (aCons (eL dLen (aCons (eVar 7) aNil)) (aCons (eC (.bl true)) aNil)))))))))) (bName 5)
 (sIf (eNotT (eTest (eCall 4 rf__law_pair (aCons (eC (.int 7)) (aCons (eVar 9) (aCons (eVar 5) (aCons (eVar 2) aNil)))))))
 (sRet (eC (.bl false)))
 sSkip)))))
 (sSeq (sAsg 10 (eCall 2 rf__law_take (aCons (eVar 1) (aCons (eC (.int 9)) aNil))))
 (sRet (eAnd (eCall 2 rf__law_papers (aCons (eVar 10) (aCons (eB dAdd (eVar 10) (eC (.int 3))) aNil))) (eCall 2 rf__law_errors (aCons (eVar 10) (aCons (eB dAdd (eVar 10) (eC (.int 3))) aNil))))))))))))))))
def rf_law : List D → Sto → Res D := runDef 11 ev_law

end
end LawM
end
section
set_option Elab.async false
set_option linter.all false
set_option maxRecDepth 100000
set_option maxHeartbeats 1000000
/-! the pool. -/
namespace LawM
open PySem PySem.Spec PyProof.Rows L2 MP
theorem mixed_ok {c t : Int} (hc : Bt c 1000) (ht : Bt t 100) {S : Sto} : ∃ r, rf__law_mixed [.int c, .int t] S = .ok (.int r) S := by
  have a1 := mulA (y := 50021) (b := 20) hc (by unfold Bt; decide) (by decide)
  have a2 := mulA (y := 71993) (b := 20) ht (by unfold Bt; decide) (by decide)
  have n1 : CModA (c * 50021 + t * 71993 + 13) 2147480009 := by unfold CModA; decide
  obtain ⟨f1, f2⟩ := fmod_range (a := c * 50021 + t * 71993 + 13) (m := 2147480009) (by decide)
  generalize hf : (c * 50021 + t * 71993 + 13).fmod 2147480009 = f at f1 f2
  have bf : Bt f 31 := bt_of f1 f2 (by decide)
  have a3 := mulA bf bf (by decide)
  have a4 := mulA (y := 30011) (b := 20) ht (by unfold Bt; decide) (by decide)
  have n2 : CModA (f * f + t * 30011 + 5) 2147470001 := by unfold CModA; decide
  obtain ⟨g1, g2⟩ := fmod_range (a := f * f + t * 30011 + 5) (m := 2147470001) (by decide)
  generalize hg : (f * f + t * 30011 + 5).fmod 2147470001 = g at g1 g2
  have bg : Bt g 31 := bt_of g1 g2 (by decide)
  have a5 := mulA bg bg (by decide)
  have a6 := mulA (y := 20011) (b := 20) bg (by unfold Bt; decide) (by decide)
  have d1 : CDivA (g * g) 4099 := ⟨by decide, by decide⟩
  have n3 : CModA ((g * g).fdiv 4099 + g * 20011 + t) 2147460011 := by unfold CModA; decide
  have d2 : ∀ x, CDivA x 8 := fun x => ⟨by decide, by decide⟩
  refine ⟨(((g * g).fdiv 4099 + g * 20011 + t).fmod 2147460011).fdiv 8, ?_⟩
  unfold rf__law_mixed runDef ev__law_mixed
  rw [seq_next (ρ' := [some (.int c), some (.int t), some (.int f), none, none]) (S' := S) (by simp [eVar, eC, eB, eU, eL, boolOf, eTest, eNotT, eAndT, eOrT, eNot, eAnd, eOr, eIf, aNil, aCons, eTup, eLst, eChain, sSkip, sSeq, sAsg, sPar, sExpr, sRet, sRetN, sIf, sBrk, sCont, sSub, eCall, eKw, runDef, begins, dI0, dI, dSub, dLt, dLe, dGt, dGe, dNeg, dInt, dAbs, dGcd, dDiv, dMod, sBind, bTup, bCons, bNil, bName, eMt, iSeq, iRange, ofRes, flowRes, srcOf, dMul_int a1, dMul_int a2, n1, hf])]
  rw [seq_next (ρ' := [some (.int c), some (.int t), some (.int f), some (.int g), none]) (S' := S) (by simp [eVar, eC, eB, eU, eL, boolOf, eTest, eNotT, eAndT, eOrT, eNot, eAnd, eOr, eIf, aNil, aCons, eTup, eLst, eChain, sSkip, sSeq, sAsg, sPar, sExpr, sRet, sRetN, sIf, sBrk, sCont, sSub, eCall, eKw, runDef, begins, dI0, dI, dSub, dLt, dLe, dGt, dGe, dNeg, dInt, dAbs, dGcd, dDiv, dMod, sBind, bTup, bCons, bNil, bName, eMt, iSeq, iRange, ofRes, flowRes, srcOf, dMul_int a3, dMul_int a4, n2, hg])]
  rw [seq_next (ρ' := [some (.int c), some (.int t), some (.int f), some (.int g), some (.int (((g * g).fdiv 4099 + g * 20011 + t).fmod 2147460011))]) (S' := S) (by simp [eVar, eC, eB, eU, eL, boolOf, eTest, eNotT, eAndT, eOrT, eNot, eAnd, eOr, eIf, aNil, aCons, eTup, eLst, eChain, sSkip, sSeq, sAsg, sPar, sExpr, sRet, sRetN, sIf, sBrk, sCont, sSub, eCall, eKw, runDef, begins, dI0, dI, dSub, dLt, dLe, dGt, dGe, dNeg, dInt, dAbs, dGcd, dDiv, dMod, sBind, bTup, bCons, bNil, bName, eMt, iSeq, iRange, ofRes, flowRes, srcOf, dMul_int a5, dMul_int a6, n3, d1])]
  simp [eVar, eC, eB, eU, eL, boolOf, eTest, eNotT, eAndT, eOrT, eNot, eAnd, eOr, eIf, aNil, aCons, eTup, eLst, eChain, sSkip, sSeq, sAsg, sPar, sExpr, sRet, sRetN, sIf, sBrk, sCont, sSub, eCall, eKw, runDef, begins, dI0, dI, dSub, dLt, dLe, dGt, dGe, dNeg, dInt, dAbs, dGcd, dDiv, dMod, sBind, bTup, bCons, bNil, bName, eMt, iSeq, iRange, ofRes, flowRes, srcOf, d2]
/-- the pool, after at most n takings -/
structure Pl (C P : List D) (n : Nat) : Prop where
  ex : ∃ (cs : List Int) (v1 v2 v3 v4 : Int), C = cs.map D.int ∧ P = [.lst 0, .int v1, .int v2, .int v3, .int v4] ∧ (∀ c ∈ cs, Bt c 2000000) ∧ (0 ≤ v1 ∧ Bt v1 700) ∧ (0 ≤ v2 ∧ v2 ≤ n) ∧ Bt v3 40
theorem pop_ok {c : Int} {cs : List Int} {P : List D} {R : Sto} : mPopAt 0 [.int 0] ((c :: cs).map D.int :: P :: R) = some (.int c, cs.map D.int :: P :: R) := by
  have h : ixN ((c :: cs).map D.int).length 0 = some 0 := ixN_nat (k := 0) (by simp)
  unfold mPopAt
  simp only [List.getElem?_cons_zero, Option.bind_some, h]
  simp
theorem set1 {C : List D} {R : Sto} {v1 v2 v3 v4 w : Int} : gSet (.lst 1) (.int 1) (.int w) (C :: [.lst 0, .int v1, .int v2, .int v3, .int v4] :: R) = some (C :: [.lst 0, .int w, .int v2, .int v3, .int v4] :: R) := set_lst (k := 1) (xs := [.lst 0, .int v1, .int v2, .int v3, .int v4]) rfl (by show 1 < 5; decide)
theorem set2 {C : List D} {R : Sto} {v1 v2 v3 v4 w : Int} : gSet (.lst 1) (.int 2) (.int w) (C :: [.lst 0, .int v1, .int v2, .int v3, .int v4] :: R) = some (C :: [.lst 0, .int v1, .int w, .int v3, .int v4] :: R) := set_lst (k := 2) (xs := [.lst 0, .int v1, .int v2, .int v3, .int v4]) rfl (by show 2 < 5; decide)
section
variable {C : List D} {R : Sto} {a b c d e : D}
theorem at0 : dIx (.lst 1) (.int 0) (C :: [a, b, c, d, e] :: R) = some (a, C :: [a, b, c, d, e] :: R) := ix_lst (k := 0) (xs := [a, b, c, d, e]) rfl rfl
theorem at1 : dIx (.lst 1) (.int 1) (C :: [a, b, c, d, e] :: R) = some (b, C :: [a, b, c, d, e] :: R) := ix_lst (k := 1) (xs := [a, b, c, d, e]) rfl rfl
theorem at2 : dIx (.lst 1) (.int 2) (C :: [a, b, c, d, e] :: R) = some (c, C :: [a, b, c, d, e] :: R) := ix_lst (k := 2) (xs := [a, b, c, d, e]) rfl rfl
theorem at3 : dIx (.lst 1) (.int 3) (C :: [a, b, c, d, e] :: R) = some (d, C :: [a, b, c, d, e] :: R) := ix_lst (k := 3) (xs := [a, b, c, d, e]) rfl rfl
theorem at4 : dIx (.lst 1) (.int 4) (C :: [a, b, c, d, e] :: R) = some (e, C :: [a, b, c, d, e] :: R) := ix_lst (k := 4) (xs := [a, b, c, d, e]) rfl rfl
end
theorem take_rest (F : List D → Sto → Res D) (hF : ∀ c t : Int, Bt c 1000 → Bt t 100 → ∀ S, ∃ r, F [.int c, .int t] S = .ok (.int r) S) {cs : List Int} {v1 v2 v3 v4 : Int} {m n : Nat} {x : Option D} {R : Sto} (hm : 0 < m) (hm2 : m < 2 ^ 60) (hn : n < 2 ^ 60) (hcs : ∀ c ∈ cs, Bt c 2000000) (h1 : 0 ≤ v1 ∧ Bt v1 700) (h2 : 0 ≤ v2 ∧ v2 ≤ n) (h3 : Bt v3 40) :
    ∃ (r : Nat) (C' P' : List D), flowRes ((sSeq (sIf (eTest (eB dGt (eB dIx (eVar 0) (eC (.int 1))) (eC (.int 0)))) (sSeq (sAsg 3 (eB dMod (eL dInt (aCons (eB dIx (eVar 0) (eC (.int 1))) aNil)) (eVar 1)))
 (sSeq (sSub gSet (eVar 0) (eC (.int 1)) (eB dDiv (eB dIx (eVar 0) (eC (.int 1))) (eVar 1))) (sRet (eVar 3)))) sSkip)
 (sSeq (sSub gSet (eVar 0) (eC (.int 2)) (eB dAdd (eB dIx (eVar 0) (eC (.int 2))) (eC (.int 1)))) (sRet (eB dMod (eL dInt (aCons (eCall 2 F (aCons (eB dIx (eVar 0) (eC (.int 3))) (aCons (eB dIx (eVar 0) (eC (.int 2))) aNil))) aNil)) (eVar 1)))))
   [some (.lst 1), some (.int m), x, none] (cs.map D.int :: [.lst 0, .int v1, .int v2, .int v3, .int v4] :: R)) = .ok (.int r) (C' :: P' :: R) ∧ r < m ∧ Pl C' P' (n + 1) := by
  by_cases hv : 0 < v1
  · obtain ⟨k, k1, k2⟩ := int_fmod (r := v1) hm
    have c1 : CModA v1 m := by unfold CModA; omega
    have c2 : CDivA v1 m := divA (b := 60) (by omega) (by unfold Bt; omega) (by decide)
    have e1 : v1.fdiv m = v1 / m := by rw [Int.fdiv_eq_ediv_of_nonneg _ (by omega)]
    have b1 : 0 ≤ v1 / m := Int.ediv_nonneg h1.1 (by omega)
    have b2 : v1 / m ≤ v1 := Int.ediv_le_self _ h1.1
    refine ⟨k, cs.map D.int, [.lst 0, .int (v1 / m), .int v2, .int v3, .int v4], ?_, k1, ⟨cs, _, _, _, _, rfl, rfl, hcs, ⟨b1, ?_⟩, ⟨h2.1, by omega⟩, h3⟩⟩
    · simp [eVar, eC, eB, eU, eL, boolOf, eTest, eNotT, eAndT, eOrT, eNot, eAnd, eOr, eIf, aNil, aCons, eTup, eLst, eChain, sSkip, sSeq, sAsg, sPar, sExpr, sRet, sRetN, sIf, sBrk, sCont, sSub, eCall, eKw, runDef, begins, dI0, dI, dSub, dLt, dLe, dGt, dGe, dNeg, dInt, dAbs, dGcd, dDiv, dMod, sBind, bTup, bCons, bNil, bName, eMt, iSeq, iRange, ofRes, flowRes, srcOf, at1, hv, c1, c2, k2, e1, set1]
    · have := h1.2
      unfold Bt at this ⊢
      omega
  · have hz : v1 = 0 := by omega
    subst hz
    obtain ⟨q, e⟩ := hF v3 (v2 + 1) (h3.mono (by decide)) (by unfold Bt; omega) (cs.map D.int :: [.lst 0, .int 0, .int (v2 + 1), .int v3, .int v4] :: R)
    obtain ⟨k, k1, k2⟩ := int_fmod (r := q) hm
    have c1 : CModA q m := by unfold CModA; omega
    refine ⟨k, cs.map D.int, [.lst 0, .int 0, .int (v2 + 1), .int v3, .int v4], ?_, k1, ⟨cs, _, _, _, _, rfl, rfl, hcs, h1, ⟨by omega, by omega⟩, h3⟩⟩
    simp [eVar, eC, eB, eU, eL, boolOf, eTest, eNotT, eAndT, eOrT, eNot, eAnd, eOr, eIf, aNil, aCons, eTup, eLst, eChain, sSkip, sSeq, sAsg, sPar, sExpr, sRet, sRetN, sIf, sBrk, sCont, sSub, eCall, eKw, runDef, begins, dI0, dI, dSub, dLt, dLe, dGt, dGe, dNeg, dInt, dAbs, dGcd, dDiv, dMod, sBind, bTup, bCons, bNil, bName, eMt, iSeq, iRange, ofRes, flowRes, srcOf, at1, at2, at3, set2, e, c1, k2]
def E18 : Int := 10 ^ 18
def E64 : Int := 10 ^ 64
theorem p18 {S : Sto} : dPow (.int 10) (.int 18) S = some (.int E18, S) := pow10 18 (by decide)
theorem p64 {S : Sto} : dPow (.int 10) (.int 64) S = some (.int E64, S) := pow10 64 (by decide)
theorem b18 : Bt E18 60 := by unfold Bt E18; decide +kernel
theorem b64 : Bt E64 213 := by unfold Bt E64; decide +kernel
theorem z192 : 0 < E64 * E64 * E64 := by unfold E64; decide +kernel
section
variable {F : List D → Sto → Res D} {c X Y : Int} {cs : List Int} {v1 v2 v3 v4 q : Int} {m k : Nat} {R : Sto}
theorem tb1 (hl1 : (0 : Int) < (cs.length : Int) + 1)
   (hl0 : ∀ P R, dLen [.lst 0] ((.int c :: cs.map D.int) :: P :: R) = some (.int ((cs.length : Int) + 1), (.int c :: cs.map D.int) :: P :: R)) : (eAndT (eTest (eB dEq (eB dIx (eVar 0) (eC (.int 1))) (eC (.int 0)))) (eTest (eB dGt (eL dLen (aCons (eB dIx (eVar 0) (eC (.int 0))) aNil)) (eC (.int 0)))))
  [some (.lst 1), some (.int m), none, none] ((.int c :: cs.map D.int) :: [.lst 0, .int 0, .int v2, .int v3, .int v4] :: R) = .ok true ((.int c :: cs.map D.int) :: [.lst 0, .int 0, .int v2, .int v3, .int v4] :: R) := by
  simp [eVar, eC, eB, eU, eL, boolOf, eTest, eNotT, eAndT, eOrT, eNot, eAnd, eOr, eIf, aNil, aCons, eTup, eLst, eChain, sSkip, sSeq, sAsg, sPar, sExpr, sRet, sRetN, sIf, sBrk, sCont, sSub, eCall, eKw, runDef, begins, dI0, dI, dSub, dLt, dLe, dGt, dGe, dNeg, dInt, dAbs, dGcd, dDiv, dMod, sBind, bTup, bCons, bNil, bName, eMt, iSeq, iRange, ofRes, flowRes, srcOf, at0, at1, at2, hl0, hl1]
theorem tb2 (hp0 : mPopAt 0 [.int 0] ((.int c :: cs.map D.int) :: [.lst 0, .int 0, .int v2, .int v3, .int v4] :: R) = some (.int c, cs.map D.int :: [.lst 0, .int 0, .int v2, .int v3, .int v4] :: R)) : (sAsg 2 (eL dAbs (aCons (eMt mPopAt (eB dIx (eVar 0) (eC (.int 0))) (aCons (eC (.int 0)) aNil)) aNil)))
  [some (.lst 1), some (.int m), none, none] ((.int c :: cs.map D.int) :: [.lst 0, .int 0, .int v2, .int v3, .int v4] :: R) = .next [some (.lst 1), some (.int m), some (.int (c.natAbs : Int)), none] (cs.map D.int :: [.lst 0, .int 0, .int v2, .int v3, .int v4] :: R) := by
  simp [eVar, eC, eB, eU, eL, boolOf, eTest, eNotT, eAndT, eOrT, eNot, eAnd, eOr, eIf, aNil, aCons, eTup, eLst, eChain, sSkip, sSeq, sAsg, sPar, sExpr, sRet, sRetN, sIf, sBrk, sCont, sSub, eCall, eKw, runDef, begins, dI0, dI, dSub, dLt, dLe, dGt, dGe, dNeg, dInt, dAbs, dGcd, dDiv, dMod, sBind, bTup, bCons, bNil, bName, eMt, iSeq, iRange, ofRes, flowRes, srcOf, at0, at1, at2, hp0]
theorem tb3 (hs : (c.natAbs : Int) < X) (e : F [.int (c.natAbs : Int), .int (v2 + 1)] (cs.map D.int :: [.lst 0, .int 0, .int (v2 + 1), .int v3, .int v4] :: R) = .ok (.int q) (cs.map D.int :: [.lst 0, .int 0, .int (v2 + 1), .int v3, .int v4] :: R)) (c1 : CModA q m) (k2 : q.fmod m = k) : (sIf (eTest (eB dLt (eVar 2) (eC (.int X)))) (sSeq (sSub gSet (eVar 0) (eC (.int 2)) (eB dAdd (eB dIx (eVar 0) (eC (.int 2))) (eC (.int 1))))
 (sRet (eB dMod (eL dInt (aCons (eCall 2 F (aCons (eVar 2) (aCons (eB dIx (eVar 0) (eC (.int 2))) aNil))) aNil)) (eVar 1)))) sSkip)
  [some (.lst 1), some (.int m), some (.int (c.natAbs : Int)), none] (cs.map D.int :: [.lst 0, .int 0, .int v2, .int v3, .int v4] :: R) = .ret (.int k) (cs.map D.int :: [.lst 0, .int 0, .int (v2 + 1), .int v3, .int v4] :: R) := by
  simp [eVar, eC, eB, eU, eL, boolOf, eTest, eNotT, eAndT, eOrT, eNot, eAnd, eOr, eIf, aNil, aCons, eTup, eLst, eChain, sSkip, sSeq, sAsg, sPar, sExpr, sRet, sRetN, sIf, sBrk, sCont, sSub, eCall, eKw, runDef, begins, dI0, dI, dSub, dLt, dLe, dGt, dGe, dNeg, dInt, dAbs, dGcd, dDiv, dMod, sBind, bTup, bCons, bNil, bName, eMt, iSeq, iRange, ofRes, flowRes, srcOf, at0, at1, at2, set2, e, c1, k2, hs]
theorem tb4 {A : Es} (hs : ¬ (c.natAbs : Int) < X) : (sIf (eTest (eB dLt (eVar 2) (eC (.int X)))) A sSkip)
  [some (.lst 1), some (.int m), some (.int (c.natAbs : Int)), none] (cs.map D.int :: [.lst 0, .int 0, .int v2, .int v3, .int v4] :: R) = .next [some (.lst 1), some (.int m), some (.int (c.natAbs : Int)), none] (cs.map D.int :: [.lst 0, .int 0, .int v2, .int v3, .int v4] :: R) := by
  rw [if_f (S' := cs.map D.int :: [.lst 0, .int 0, .int v2, .int v3, .int v4] :: R) (by simp [eVar, eC, eB, eU, eL, boolOf, eTest, eNotT, eAndT, eOrT, eNot, eAnd, eOr, eIf, aNil, aCons, eTup, eLst, eChain, sSkip, sSeq, sAsg, sPar, sExpr, sRet, sRetN, sIf, sBrk, sCont, sSub, eCall, eKw, runDef, begins, dI0, dI, dSub, dLt, dLe, dGt, dGe, dNeg, dInt, dAbs, dGcd, dDiv, dMod, sBind, bTup, bCons, bNil, bName, eMt, iSeq, iRange, ofRes, flowRes, srcOf, hs])]
  rfl
theorem tb5 {W : Int} (m1 : CMulA Y Y) (m2 : CMulA (Y * Y) Y) (n1 : CModA (c.natAbs : Int) (Y * Y * Y)) (hW : (c.natAbs : Int).fmod (Y * Y * Y) = W) : (sSub gSet (eVar 0) (eC (.int 1)) (eB dMod (eL dInt (aCons (eVar 2) aNil)) (eB dMul (eB dMul (eC (.int Y)) (eC (.int Y))) (eC (.int Y)))))
  [some (.lst 1), some (.int m), some (.int (c.natAbs : Int)), none] (cs.map D.int :: [.lst 0, .int 0, .int v2, .int v3, .int v4] :: R) = .next [some (.lst 1), some (.int m), some (.int (c.natAbs : Int)), none] (cs.map D.int :: [.lst 0, .int W, .int v2, .int v3, .int v4] :: R) := by
  simp [eVar, eC, eB, eU, eL, boolOf, eTest, eNotT, eAndT, eOrT, eNot, eAnd, eOr, eIf, aNil, aCons, eTup, eLst, eChain, sSkip, sSeq, sAsg, sPar, sExpr, sRet, sRetN, sIf, sBrk, sCont, sSub, eCall, eKw, runDef, begins, dI0, dI, dSub, dLt, dLe, dGt, dGe, dNeg, dInt, dAbs, dGcd, dDiv, dMod, sBind, bTup, bCons, bNil, bName, eMt, iSeq, iRange, ofRes, flowRes, srcOf, set1, dMul_int m1, dMul_int m2, n1, hW]
end
theorem take_ok {C P : List D} {n m : Nat} {R : Sto} (h : Pl C P n) (hm : 0 < m) (hm2 : m < 2 ^ 60) (hn : n < 2 ^ 60) : ∃ (r : Nat) (C' P' : List D), rf__law_take [.lst 1, .int (m : Int)] (C :: P :: R) = .ok (.int (r : Int)) (C' :: P' :: R) ∧ r < m ∧ Pl C' P' (n + 1) := by
  obtain ⟨cs, v1, v2, v3, v4, rfl, rfl, hcs, h1, h2, h3⟩ := h.ex
  unfold rf__law_take runDef ev__law_take
  have hF : ∀ c t : Int, Bt c 1000 → Bt t 100 → ∀ S, ∃ r, rf__law_mixed [.int c, .int t] S = .ok (.int r) S := fun c t a b S => mixed_ok a b
  generalize rf__law_mixed = F at hF ⊢
  have h18 : eB dPow (eC (.int 10)) (eC (.int 18)) = eC (.int E18) := by
    funext ρ S
    simp only [eB, eC, Res.bind_ok]
    rw [p18]
    rfl
  have h64 : eB dPow (eC (.int 10)) (eC (.int 64)) = eC (.int E64) := by
    funext ρ S
    simp only [eB, eC, Res.bind_ok]
    rw [p64]
    rfl
  rw [h18, h64]
  have b18 := b18
  have b64 := b64
  have z192 := z192
  clear h18 h64
  generalize E18 = X at b18 ⊢
  generalize E64 = Y at b64 z192 ⊢
  by_cases hz : v4 = 0
  · subst hz
    refine ⟨0, _, _, ?_, hm, ⟨cs, v1, v2, v3, 0, rfl, rfl, hcs, h1, ⟨h2.1, by omega⟩, h3⟩⟩
    rw [seq_ret (d := .int 0) (S' := cs.map D.int :: [.lst 0, .int v1, .int v2, .int v3, .int 0] :: R) (by simp [eVar, eC, eB, eU, eL, boolOf, eTest, eNotT, eAndT, eOrT, eNot, eAnd, eOr, eIf, aNil, aCons, eTup, eLst, eChain, sSkip, sSeq, sAsg, sPar, sExpr, sRet, sRetN, sIf, sBrk, sCont, sSub, eCall, eKw, runDef, begins, dI0, dI, dSub, dLt, dLe, dGt, dGe, dNeg, dInt, dAbs, dGcd, dDiv, dMod, sBind, bTup, bCons, bNil, bName, eMt, iSeq, iRange, ofRes, flowRes, srcOf, at4])]
    rfl
  · rw [seq_next (ρ' := [some (.lst 1), some (.int m), none, none]) (S' := cs.map D.int :: [.lst 0, .int v1, .int v2, .int v3, .int v4] :: R) (by simp [eVar, eC, eB, eU, eL, boolOf, eTest, eNotT, eAndT, eOrT, eNot, eAnd, eOr, eIf, aNil, aCons, eTup, eLst, eChain, sSkip, sSeq, sAsg, sPar, sExpr, sRet, sRetN, sIf, sBrk, sCont, sSub, eCall, eKw, runDef, begins, dI0, dI, dSub, dLt, dLe, dGt, dGe, dNeg, dInt, dAbs, dGcd, dDiv, dMod, sBind, bTup, bCons, bNil, bName, eMt, iSeq, iRange, ofRes, flowRes, srcOf, at4, hz])]
    have hlen : ∀ cs : List Int, ∀ P R, dLen [.lst 0] (cs.map D.int :: P :: R) = some (.int cs.length, cs.map D.int :: P :: R) := fun cs P R => by
      rw [len_lst (xs := cs.map D.int) rfl]
      simp
    by_cases hp : v1 = 0 ∧ cs ≠ []
    · obtain ⟨hv, hc⟩ := hp
      subst hv
      match cs, hc with
      | c :: cs, _ =>
        have bc := hcs c (by simp)
        have hl1 : (0 : Int) < (cs.length : Int) + 1 := by omega
        by_cases hs : (c.natAbs : Int) < X
        · obtain ⟨q, e⟩ := hF (c.natAbs : Int) (v2 + 1) (Bt.mono (a := 60) (by have := b18; unfold Bt at this ⊢; omega) (by omega)) (by unfold Bt; omega) (cs.map D.int :: [.lst 0, .int 0, .int (v2 + 1), .int v3, .int v4] :: R)
          obtain ⟨k, k1, k2⟩ := int_fmod (r := q) hm
          have c1 : CModA q m := by unfold CModA; omega
          refine ⟨k, cs.map D.int, [.lst 0, .int 0, .int (v2 + 1), .int v3, .int v4], ?_, k1, ⟨cs, _, _, _, _, rfl, rfl, fun x hx => hcs x (by simp [hx]), h1, ⟨by omega, by omega⟩, h3⟩⟩
          rw [seq_ret (d := .int k) (S' := cs.map D.int :: [.lst 0, .int 0, .int (v2 + 1), .int v3, .int v4] :: R)]
          · rfl
          · have hl0 := hlen (c :: cs)
            have hp0 := pop_ok (c := c) (cs := cs) (P := [.lst 0, .int 0, .int v2, .int v3, .int v4]) (R := R)
            simp only [List.map_cons, List.length_cons, Int.natCast_add, Int.cast_ofNat_Int] at hl0 hp0
            rw [List.map_cons, if_t (tb1 hl1 hl0), seq_next (tb2 hp0), seq_ret (tb3 hs e c1 k2)]
        · have m1 : CMulA Y Y := mulA b64 b64 (by decide)
          have m2 : CMulA (Y * Y) Y := mulA (b64.mul b64) b64 (by decide)
          have n1 : CModA (c.natAbs : Int) (Y * Y * Y) := by
            have := z192
            unfold CModA
            omega
          obtain ⟨w1, w2⟩ := fmod_range (a := (c.natAbs : Int)) z192
          have w3 := bt_of (k := 700) w1 w2 (Nat.le_of_lt (Bt.mono ((b64.mul b64).mul b64) (by decide)))
          generalize hW : (c.natAbs : Int).fmod (Y * Y * Y) = W at w1 w2 w3
          obtain ⟨r, C', P', e1, e2, e3⟩ := take_rest F hF (cs := cs) (v1 := W) (v2 := v2) (v3 := v3) (v4 := v4) (x := some (.int (c.natAbs : Int))) (R := R) hm hm2 hn (fun x hx => hcs x (by simp [hx])) ⟨w1, w3⟩ h2 h3
          refine ⟨r, C', P', ?_, e2, e3⟩
          rw [seq_next (ρ' := [some (.lst 1), some (.int m), some (.int (c.natAbs : Int)), none]) (S' := cs.map D.int :: [.lst 0, .int W, .int v2, .int v3, .int v4] :: R)]
          · exact e1
          · have hl0 := hlen (c :: cs)
            have hp0 := pop_ok (c := c) (cs := cs) (P := [.lst 0, .int 0, .int v2, .int v3, .int v4]) (R := R)
            simp only [List.map_cons, List.length_cons, Int.natCast_add, Int.cast_ofNat_Int] at hl0 hp0
            rw [List.map_cons, if_t (tb1 hl1 hl0), seq_next (tb2 hp0), seq_next (tb4 hs), tb5 m1 m2 n1 hW]
    · obtain ⟨r, C', P', e1, e2, e3⟩ := take_rest F hF (cs := cs) (v1 := v1) (v2 := v2) (v3 := v3) (v4 := v4) (x := none) (R := R) hm hm2 hn hcs h1 h2 h3
      refine ⟨r, C', P', ?_, e2, e3⟩
      rw [seq_next (ρ' := [some (.lst 1), some (.int m), none, none]) (S' := cs.map D.int :: [.lst 0, .int v1, .int v2, .int v3, .int v4] :: R)]
      · exact e1
      · by_cases hv : v1 = 0
        · have hc : cs = [] := by
            by_cases q : cs = []
            · exact q
            · exact absurd ⟨hv, q⟩ hp
          subst hc hv
          have hl0 := hlen []
          simp only [List.map_nil] at hl0
          simp [eVar, eC, eB, eU, eL, boolOf, eTest, eNotT, eAndT, eOrT, eNot, eAnd, eOr, eIf, aNil, aCons, eTup, eLst, eChain, sSkip, sSeq, sAsg, sPar, sExpr, sRet, sRetN, sIf, sBrk, sCont, sSub, eCall, eKw, runDef, begins, dI0, dI, dSub, dLt, dLe, dGt, dGe, dNeg, dInt, dAbs, dGcd, dDiv, dMod, sBind, bTup, bCons, bNil, bName, eMt, iSeq, iRange, ofRes, flowRes, srcOf, at0, at1, hl0]
        · simp [eVar, eC, eB, eU, eL, boolOf, eTest, eNotT, eAndT, eOrT, eNot, eAnd, eOr, eIf, aNil, aCons, eTup, eLst, eChain, sSkip, sSeq, sAsg, sPar, sExpr, sRet, sRetN, sIf, sBrk, sCont, sSub, eCall, eKw, runDef, begins, dI0, dI, dSub, dLt, dLe, dGt, dGe, dNeg, dInt, dAbs, dGcd, dDiv, dMod, sBind, bTup, bCons, bNil, bName, eMt, iSeq, iRange, ofRes, flowRes, srcOf, at1, hv]
theorem pool_ok {ns : List Int} (hb : ∀ z ∈ ns, Bt z 2000000) : ∃ P, rf__law_pool [.frl (ns.map D.int)] [] = .ok (.lst 1) [ns.map D.int, P] ∧ Pl (ns.map D.int) P 0 := by
  obtain ⟨ρ', S', e1, e2, s, x, e3, hs0, hs1⟩ := for_all (st := fun _ => True) (b := bName 2)
    (body := sAsg 1 (eB dMod (eL dInt (aCons (eB dAdd (eB dAdd (eB dMul (eVar 1) (eC (.int 31391))) (eB dMul (eVar 2) (eC (.int 2)))) (eC (.int 5))) aNil)) (eC (.int 2147450009))))
    (fun i ρ S' => S' = [] ∧ ∃ (s : Int) (x : Option D), ρ = [some (.frl (ns.map D.int)), some (.int s), x] ∧ 0 ≤ s ∧ s < 2147450009) (fun _ _ _ _ => trivial) (ns.map D.int)
    [some (.frl (ns.map D.int)), some (.int 0), none] []
    (fun i x ρ S' hx hI => by
      obtain ⟨e, s, x', rfl, h0, h1⟩ := hI
      subst e
      obtain ⟨z, hz, rfl⟩ := int_at hx
      have bz := hb z (List.mem_of_getElem? hz)
      have bs : Bt s 31 := bt_of h0 h1 (by decide)
      have c1 := mulA (y := 31391) (b := 20) bs (by unfold Bt; decide) (by decide)
      have c2 := mulA (y := 2) (b := 2) bz (by unfold Bt; decide) (by decide)
      obtain ⟨f1, f2⟩ := fmod_range (a := s * 31391 + z * 2 + 5) (m := 2147450009) (by decide)
      have n1 : CModA (s * 31391 + z * 2 + 5) 2147450009 := by unfold CModA; decide
      refine ⟨_, [some (.frl (ns.map D.int)), some (.int ((s * 31391 + z * 2 + 5).fmod 2147450009)), some (.int z)], _, rfl, ?_, rfl, _, _, rfl, f1, f2⟩
      simp [eVar, eC, eB, eU, eL, boolOf, eTest, eNotT, eAndT, eOrT, eNot, eAnd, eOr, eIf, aNil, aCons, eTup, eLst, eChain, sSkip, sSeq, sAsg, sPar, sExpr, sRet, sRetN, sIf, sBrk, sCont, sSub, eCall, eKw, runDef, begins, dI0, dI, dSub, dLt, dLe, dGt, dGe, dNeg, dInt, dAbs, dGcd, dDiv, dMod, sBind, bTup, bCons, bNil, bName, eMt, iSeq, iRange, ofRes, flowRes, srcOf, dMul_int c1, dMul_int c2, n1])
    ⟨rfl, 0, none, rfl, by decide, by decide⟩
  subst e2 e3
  refine ⟨[.lst 0, .int 0, .int 0, .int s, .int ns.length], ?_, ⟨ns, 0, 0, s, ns.length, rfl, rfl, hb, ⟨by decide, Nat.pow_pos (by decide)⟩, ⟨by decide, by decide⟩, (bt_of (k := 31) hs0 hs1 (by decide)).mono (by decide)⟩⟩
  unfold rf__law_pool runDef ev__law_pool
  rw [seq_next (ρ' := [some (.frl (ns.map D.int)), some (.int 0), none]) (S' := []) (by simp [eVar, eC, eB, eU, eL, boolOf, eTest, eNotT, eAndT, eOrT, eNot, eAnd, eOr, eIf, aNil, aCons, eTup, eLst, eChain, sSkip, sSeq, sAsg, sPar, sExpr, sRet, sRetN, sIf, sBrk, sCont, sSub, eCall, eKw, runDef, begins, dI0, dI, dSub, dLt, dLe, dGt, dGe, dNeg, dInt, dAbs, dGcd, dDiv, dMod, sBind, bTup, bCons, bNil, bName, eMt, iSeq, iRange, ofRes, flowRes, srcOf])]
  rw [seq_next (ρ' := [some (.frl (ns.map D.int)), some (.int s), x]) (S' := [])]
  · simp [eVar, eC, eB, eU, eL, boolOf, eTest, eNotT, eAndT, eOrT, eNot, eAnd, eOr, eIf, aNil, aCons, eTup, eLst, eChain, sSkip, sSeq, sAsg, sPar, sExpr, sRet, sRetN, sIf, sBrk, sCont, sSub, eCall, eKw, runDef, begins, dI0, dI, dSub, dLt, dLe, dGt, dGe, dNeg, dInt, dAbs, dGcd, dDiv, dMod, sBind, bTup, bCons, bNil, bName, eMt, iSeq, iRange, ofRes, flowRes, srcOf, dLen, dListOf, itemsOf, dLst_ok]
  · unfold sFor
    simp only [eVar, eC, eB, eU, eL, boolOf, eTest, eNotT, eAndT, eOrT, eNot, eAnd, eOr, eIf, aNil, aCons, eTup, eLst, eChain, sSkip, sSeq, sAsg, sPar, sExpr, sRet, sRetN, sIf, sBrk, sCont, sSub, eCall, eKw, runDef, begins, dI0, dI, dSub, dLt, dLe, dGt, dGe, dNeg, dInt, dAbs, dGcd, dDiv, dMod, sBind, bTup, bCons, bNil, bName, eMt, iSeq, iRange, ofRes, flowRes, srcOf, Res.bind_ok, List.getElem?_cons_zero]
    exact e1
def TakeOk (F : List D → Sto → Res D) : Prop := ∀ (C P : List D) (n m : Nat) (R : Sto), Pl C P n → 0 < m → m < 2 ^ 60 → n < 2 ^ 60 → ∃ (r : Nat) (C' P' : List D), F [.lst 1, .int (m : Int)] (C :: P :: R) = .ok (.int (r : Int)) (C' :: P' :: R) ∧ r < m ∧ Pl C' P' (n + 1)
theorem take_is : TakeOk rf__law_take := fun C P n m R h a b c => take_ok h a b c
theorem Pl.mono {C P : List D} {n m : Nat} (h : Pl C P n) (k : n ≤ m) : Pl C P m := by
  obtain ⟨cs, v1, v2, v3, v4, a, b, c, d, e, f⟩ := h.ex
  exact ⟨cs, v1, v2, v3, v4, a, b, c, d, ⟨e.1, by omega⟩, f⟩
/-- a taking, as an expression -/
theorem tk_ok {F : List D → Sto → Res D} (hF : TakeOk F) {C P : List D} {n : Nat} {R : Sto} {ρ : MP.Env} {e : Ev} {m : Nat} (h : Pl C P n) (h0 : ρ[0]? = some (some (.lst 1))) (he : ∀ S, e ρ S = .ok (.int (m : Int)) S) (hm : 0 < m) (hm2 : m < 2 ^ 60) (hn : n < 2 ^ 60) :
    ∃ (r : Nat) (C' P' : List D), eCall 2 F (aCons (eVar 0) (aCons e aNil)) ρ (C :: P :: R) = .ok (.int (r : Int)) (C' :: P' :: R) ∧ r < m ∧ Pl C' P' (n + 1) := by
  obtain ⟨r, C', P', e1, e2, e3⟩ := hF C P n m R h hm hm2 hn
  exact ⟨r, C', P', by rw [call2 (var_ok h0) (he _), e1], e2, e3⟩
end LawM
end
section
set_option Elab.async false
set_option linter.all false
set_option maxRecDepth 100000
set_option maxHeartbeats 1000000
/-! K1: the small functions (from k01). -/
namespace LawM
open PySem PySem.Spec PyProof.Rows L2 MP
def Qu (q : Int × Int) : Prop := 1 ≤ q.2 ∧ Nat.gcd q.1.natAbs q.2.natAbs = 1
theorem int_int {i : Int} {S : Sto} : rf_is_integer [.int i] S = .ok (.bl true) S := by
  simp [rf_is_integer, ev_is_integer, eVar, eC, eB, eU, eL, boolOf, eTest, eNotT, eAndT, eOrT, eNot, eAnd, eOr, eIf, aNil, aCons, eTup, eLst, eChain, sSkip, sSeq, sAsg, sPar, sExpr, sRet, sRetN, sIf, sBrk, sCont, sSub, eCall, eKw, runDef, begins, dI0, dI, dSub, dLt, dLe, dGt, dGe, dNeg, dInt, dAbs, dGcd, dDiv, dMod, sBind, bTup, bCons, bNil, bName, eMt, iSeq, iRange, ofRes, flowRes, srcOf]
theorem int_bl {i : Bool} {S : Sto} : rf_is_integer [.bl i] S = .ok (.bl false) S := by
  simp [rf_is_integer, ev_is_integer, eVar, eC, eB, eU, eL, boolOf, eTest, eNotT, eAndT, eOrT, eNot, eAnd, eOr, eIf, aNil, aCons, eTup, eLst, eChain, sSkip, sSeq, sAsg, sPar, sExpr, sRet, sRetN, sIf, sBrk, sCont, sSub, eCall, eKw, runDef, begins, dI0, dI, dSub, dLt, dLe, dGt, dGe, dNeg, dInt, dAbs, dGcd, dDiv, dMod, sBind, bTup, bCons, bNil, bName, eMt, iSeq, iRange, ofRes, flowRes, srcOf]
theorem int_str {i : Str} {S : Sto} : rf_is_integer [.str i] S = .ok (.bl false) S := by
  simp [rf_is_integer, ev_is_integer, eVar, eC, eB, eU, eL, boolOf, eTest, eNotT, eAndT, eOrT, eNot, eAnd, eOr, eIf, aNil, aCons, eTup, eLst, eChain, sSkip, sSeq, sAsg, sPar, sExpr, sRet, sRetN, sIf, sBrk, sCont, sSub, eCall, eKw, runDef, begins, dI0, dI, dSub, dLt, dLe, dGt, dGe, dNeg, dInt, dAbs, dGcd, dDiv, dMod, sBind, bTup, bCons, bNil, bName, eMt, iSeq, iRange, ofRes, flowRes, srcOf]
theorem lw_int {i : Int} {S : Sto} : rf__law_whole [.int i] S = .ok (.bl true) S := by
  simp [rf__law_whole, ev__law_whole, eVar, eC, eB, eU, eL, boolOf, eTest, eNotT, eAndT, eOrT, eNot, eAnd, eOr, eIf, aNil, aCons, eTup, eLst, eChain, sSkip, sSeq, sAsg, sPar, sExpr, sRet, sRetN, sIf, sBrk, sCont, sSub, eCall, eKw, runDef, begins, dI0, dI, dSub, dLt, dLe, dGt, dGe, dNeg, dInt, dAbs, dGcd, dDiv, dMod, sBind, bTup, bCons, bNil, bName, eMt, iSeq, iRange, ofRes, flowRes, srcOf]
theorem isq_dq {q : Int × Int} (h : Qu q) {S : Sto} : rf_is_quotient [dq q] S = .ok (.bl true) S := by
  obtain ⟨a, b⟩ := q
  obtain ⟨h1, h2⟩ := h
  simp at h1 h2
  simp [rf_is_quotient, ev_is_quotient, eVar, eC, eB, eU, eL, boolOf, eTest, eNotT, eAndT, eOrT, eNot, eAnd, eOr, eIf, aNil, aCons, eTup, eLst, eChain, sSkip, sSeq, sAsg, sPar, sExpr, sRet, sRetN, sIf, sBrk, sCont, sSub, eCall, eKw, runDef, begins, dI0, dI, dSub, dLt, dLe, dGt, dGe, dNeg, dInt, dAbs, dGcd, dDiv, dMod, sBind, bTup, bCons, bNil, bName, eMt, iSeq, iRange, ofRes, flowRes, srcOf, dq, int_int, h1, h2]
/-- what is no quotient -/
inductive Bad : D → Prop where
  | two {a b : Int} (h : (decide (b ≥ 1) && decide (Nat.gcd a.natAbs b.natAbs = 1)) = false) : Bad (.tup [.int a, .int b])
  | b1 {k : Bool} {a : Int} : Bad (.tup [.bl k, .int a])
  | b2 {k : Bool} {a : Int} : Bad (.tup [.int a, .bl k])
  | s1 {k : Str} {a : Int} : Bad (.tup [.str k, .int a])
  | l0 : Bad (.tup [])
  | l1 {a : D} : Bad (.tup [a])
  | l3 {a b c : D} : Bad (.tup [a, b, c])
  | int {a : Int} : Bad (.int a)
  | str {a : Str} : Bad (.str a)
  | lst {l : Nat} : Bad (.lst l)
  | non : Bad .non
theorem isq_bad {d : D} (h : Bad d) {S : Sto} : rf_is_quotient [d] S = .ok (.bl false) S := by
  cases h with
  | two h =>
    rename_i a b
    by_cases hb : 1 ≤ b
    · by_cases hg : Nat.gcd a.natAbs b.natAbs = 1
      · simp [hb, hg] at h
      · simp [rf_is_quotient, ev_is_quotient, eVar, eC, eB, eU, eL, boolOf, eTest, eNotT, eAndT, eOrT, eNot, eAnd, eOr, eIf, aNil, aCons, eTup, eLst, eChain, sSkip, sSeq, sAsg, sPar, sExpr, sRet, sRetN, sIf, sBrk, sCont, sSub, eCall, eKw, runDef, begins, dI0, dI, dSub, dLt, dLe, dGt, dGe, dNeg, dInt, dAbs, dGcd, dDiv, dMod, sBind, bTup, bCons, bNil, bName, eMt, iSeq, iRange, ofRes, flowRes, srcOf, int_int, hb, hg]
        omega
    · simp [rf_is_quotient, ev_is_quotient, eVar, eC, eB, eU, eL, boolOf, eTest, eNotT, eAndT, eOrT, eNot, eAnd, eOr, eIf, aNil, aCons, eTup, eLst, eChain, sSkip, sSeq, sAsg, sPar, sExpr, sRet, sRetN, sIf, sBrk, sCont, sSub, eCall, eKw, runDef, begins, dI0, dI, dSub, dLt, dLe, dGt, dGe, dNeg, dInt, dAbs, dGcd, dDiv, dMod, sBind, bTup, bCons, bNil, bName, eMt, iSeq, iRange, ofRes, flowRes, srcOf, int_int, hb]
  | b1 => simp [rf_is_quotient, ev_is_quotient, eVar, eC, eB, eU, eL, boolOf, eTest, eNotT, eAndT, eOrT, eNot, eAnd, eOr, eIf, aNil, aCons, eTup, eLst, eChain, sSkip, sSeq, sAsg, sPar, sExpr, sRet, sRetN, sIf, sBrk, sCont, sSub, eCall, eKw, runDef, begins, dI0, dI, dSub, dLt, dLe, dGt, dGe, dNeg, dInt, dAbs, dGcd, dDiv, dMod, sBind, bTup, bCons, bNil, bName, eMt, iSeq, iRange, ofRes, flowRes, srcOf, int_int, int_bl]
  | b2 => simp [rf_is_quotient, ev_is_quotient, eVar, eC, eB, eU, eL, boolOf, eTest, eNotT, eAndT, eOrT, eNot, eAnd, eOr, eIf, aNil, aCons, eTup, eLst, eChain, sSkip, sSeq, sAsg, sPar, sExpr, sRet, sRetN, sIf, sBrk, sCont, sSub, eCall, eKw, runDef, begins, dI0, dI, dSub, dLt, dLe, dGt, dGe, dNeg, dInt, dAbs, dGcd, dDiv, dMod, sBind, bTup, bCons, bNil, bName, eMt, iSeq, iRange, ofRes, flowRes, srcOf, int_int, int_bl]
  | s1 => simp [rf_is_quotient, ev_is_quotient, eVar, eC, eB, eU, eL, boolOf, eTest, eNotT, eAndT, eOrT, eNot, eAnd, eOr, eIf, aNil, aCons, eTup, eLst, eChain, sSkip, sSeq, sAsg, sPar, sExpr, sRet, sRetN, sIf, sBrk, sCont, sSub, eCall, eKw, runDef, begins, dI0, dI, dSub, dLt, dLe, dGt, dGe, dNeg, dInt, dAbs, dGcd, dDiv, dMod, sBind, bTup, bCons, bNil, bName, eMt, iSeq, iRange, ofRes, flowRes, srcOf, int_int, int_str]
  | l0 => simp [rf_is_quotient, ev_is_quotient, eVar, eC, eB, eU, eL, boolOf, eTest, eNotT, eAndT, eOrT, eNot, eAnd, eOr, eIf, aNil, aCons, eTup, eLst, eChain, sSkip, sSeq, sAsg, sPar, sExpr, sRet, sRetN, sIf, sBrk, sCont, sSub, eCall, eKw, runDef, begins, dI0, dI, dSub, dLt, dLe, dGt, dGe, dNeg, dInt, dAbs, dGcd, dDiv, dMod, sBind, bTup, bCons, bNil, bName, eMt, iSeq, iRange, ofRes, flowRes, srcOf]
  | l1 => simp [rf_is_quotient, ev_is_quotient, eVar, eC, eB, eU, eL, boolOf, eTest, eNotT, eAndT, eOrT, eNot, eAnd, eOr, eIf, aNil, aCons, eTup, eLst, eChain, sSkip, sSeq, sAsg, sPar, sExpr, sRet, sRetN, sIf, sBrk, sCont, sSub, eCall, eKw, runDef, begins, dI0, dI, dSub, dLt, dLe, dGt, dGe, dNeg, dInt, dAbs, dGcd, dDiv, dMod, sBind, bTup, bCons, bNil, bName, eMt, iSeq, iRange, ofRes, flowRes, srcOf]
  | l3 => simp [rf_is_quotient, ev_is_quotient, eVar, eC, eB, eU, eL, boolOf, eTest, eNotT, eAndT, eOrT, eNot, eAnd, eOr, eIf, aNil, aCons, eTup, eLst, eChain, sSkip, sSeq, sAsg, sPar, sExpr, sRet, sRetN, sIf, sBrk, sCont, sSub, eCall, eKw, runDef, begins, dI0, dI, dSub, dLt, dLe, dGt, dGe, dNeg, dInt, dAbs, dGcd, dDiv, dMod, sBind, bTup, bCons, bNil, bName, eMt, iSeq, iRange, ofRes, flowRes, srcOf]
  | int => simp [rf_is_quotient, ev_is_quotient, eVar, eC, eB, eU, eL, boolOf, eTest, eNotT, eAndT, eOrT, eNot, eAnd, eOr, eIf, aNil, aCons, eTup, eLst, eChain, sSkip, sSeq, sAsg, sPar, sExpr, sRet, sRetN, sIf, sBrk, sCont, sSub, eCall, eKw, runDef, begins, dI0, dI, dSub, dLt, dLe, dGt, dGe, dNeg, dInt, dAbs, dGcd, dDiv, dMod, sBind, bTup, bCons, bNil, bName, eMt, iSeq, iRange, ofRes, flowRes, srcOf]
  | str => simp [rf_is_quotient, ev_is_quotient, eVar, eC, eB, eU, eL, boolOf, eTest, eNotT, eAndT, eOrT, eNot, eAnd, eOr, eIf, aNil, aCons, eTup, eLst, eChain, sSkip, sSeq, sAsg, sPar, sExpr, sRet, sRetN, sIf, sBrk, sCont, sSub, eCall, eKw, runDef, begins, dI0, dI, dSub, dLt, dLe, dGt, dGe, dNeg, dInt, dAbs, dGcd, dDiv, dMod, sBind, bTup, bCons, bNil, bName, eMt, iSeq, iRange, ofRes, flowRes, srcOf]
  | lst => simp [rf_is_quotient, ev_is_quotient, eVar, eC, eB, eU, eL, boolOf, eTest, eNotT, eAndT, eOrT, eNot, eAnd, eOr, eIf, aNil, aCons, eTup, eLst, eChain, sSkip, sSeq, sAsg, sPar, sExpr, sRet, sRetN, sIf, sBrk, sCont, sSub, eCall, eKw, runDef, begins, dI0, dI, dSub, dLt, dLe, dGt, dGe, dNeg, dInt, dAbs, dGcd, dDiv, dMod, sBind, bTup, bCons, bNil, bName, eMt, iSeq, iRange, ofRes, flowRes, srcOf]
  | non => simp [rf_is_quotient, ev_is_quotient, eVar, eC, eB, eU, eL, boolOf, eTest, eNotT, eAndT, eOrT, eNot, eAnd, eOr, eIf, aNil, aCons, eTup, eLst, eChain, sSkip, sSeq, sAsg, sPar, sExpr, sRet, sRetN, sIf, sBrk, sCont, sSub, eCall, eKw, runDef, begins, dI0, dI, dSub, dLt, dLe, dGt, dGe, dNeg, dInt, dAbs, dGcd, dDiv, dMod, sBind, bTup, bCons, bNil, bName, eMt, iSeq, iRange, ofRes, flowRes, srcOf]
/-! lowest terms -/
def low (a b : Int) : Int × Int := (a.fdiv (Nat.gcd a.natAbs b.natAbs : Int), b.fdiv (Nat.gcd a.natAbs b.natAbs : Int))
theorem low_spec {a b : Int} (hb : 0 < b) : ∃ g : Int, 0 < g ∧ g ≤ b ∧ g = (Nat.gcd a.natAbs b.natAbs : Int) ∧ a = g * (low a b).1 ∧ b = g * (low a b).2 ∧ Qu (low a b) := by
  have hg : 0 < Nat.gcd a.natAbs b.natAbs := Nat.gcd_pos_of_pos_right _ (by omega)
  have da : ((Nat.gcd a.natAbs b.natAbs : Nat) : Int) ∣ a := Int.ofNat_dvd_left.mpr (Nat.gcd_dvd_left _ _)
  have db : ((Nat.gcd a.natAbs b.natAbs : Nat) : Int) ∣ b := Int.ofNat_dvd_left.mpr (Nat.gcd_dvd_right _ _)
  have gb : Nat.gcd a.natAbs b.natAbs ≤ b.natAbs := Nat.le_of_dvd (by omega) (Nat.gcd_dvd_right _ _)
  have e1 : a = (Nat.gcd a.natAbs b.natAbs : Int) * (low a b).1 := by
    show a = (Nat.gcd a.natAbs b.natAbs : Int) * a.fdiv (Nat.gcd a.natAbs b.natAbs : Int)
    rw [Int.fdiv_eq_ediv_of_nonneg _ (by omega)]
    exact (Int.mul_ediv_cancel' da).symm
  have e2 : b = (Nat.gcd a.natAbs b.natAbs : Int) * (low a b).2 := by
    show b = (Nat.gcd a.natAbs b.natAbs : Int) * b.fdiv (Nat.gcd a.natAbs b.natAbs : Int)
    rw [Int.fdiv_eq_ediv_of_nonneg _ (by omega)]
    exact (Int.mul_ediv_cancel' db).symm
  generalize hx : (low a b).1 = x at *
  generalize hy : (low a b).2 = y at *
  refine ⟨(Nat.gcd a.natAbs b.natAbs : Nat), by omega, by omega, rfl, e1, e2, ?_, ?_⟩
  · rw [hy]
    rcases Int.lt_or_le 0 y with h | h
    · omega
    · exfalso
      have : (Nat.gcd a.natAbs b.natAbs : Int) * y ≤ 0 := Int.mul_nonpos_of_nonneg_of_nonpos (by omega) h
      omega
  · rw [hx, hy]
    have n1 : a.natAbs = Nat.gcd a.natAbs b.natAbs * x.natAbs := by
      have := congrArg Int.natAbs e1
      rw [Int.natAbs_mul] at this
      simpa using this
    have n2 : b.natAbs = Nat.gcd a.natAbs b.natAbs * y.natAbs := by
      have := congrArg Int.natAbs e2
      rw [Int.natAbs_mul] at this
      simpa using this
    have n3 : Nat.gcd a.natAbs b.natAbs = Nat.gcd a.natAbs b.natAbs * Nat.gcd x.natAbs y.natAbs := by
      rw [← Nat.gcd_mul_left, ← n1, ← n2]
    exact Nat.eq_of_mul_eq_mul_left hg (by rw [← n3, Nat.mul_one])
theorem settle_ok {a b : Int} (hb : 0 < b) (hs : b.natAbs < 2 ^ 8990) {S : Sto} : rf_settle [.int a, .int b] S = .ok (dq (low a b)) S := by
  obtain ⟨g, h1, h2, hg, -, -, -⟩ := low_spec (a := a) hb
  have hc : ∀ x, CDivA x (Nat.gcd a.natAbs b.natAbs : Int) := fun x => by
    rw [← hg]
    refine ⟨by omega, Nat.lt_trans (log_lt (k := 8990) ?_ (by decide)) (by decide)⟩
    exact Nat.lt_of_le_of_lt (by omega) hs
  have nb : ¬ b < 0 := by omega
  simp [rf_settle, ev_settle, eVar, eC, eB, eU, eL, boolOf, eTest, eNotT, eAndT, eOrT, eNot, eAnd, eOr, eIf, aNil, aCons, eTup, eLst, eChain, sSkip, sSeq, sAsg, sPar, sExpr, sRet, sRetN, sIf, sBrk, sCont, sSub, eCall, eKw, runDef, begins, dI0, dI, dSub, dLt, dLe, dGt, dGe, dNeg, dInt, dAbs, dGcd, dDiv, dMod, sBind, bTup, bCons, bNil, bName, eMt, iSeq, iRange, ofRes, flowRes, srcOf, nb, hc, dTup_ok, dq, low]
/-! Euclid -/
theorem common_loop {b : Nat} : ∀ (n : Nat) (a : Nat) (S : Sto), b < n → whileLoop (eTest (eB dNe (eVar 1) (eC (.int 0)))) (sPar 0 1 (eVar 1) (eB dMod (eL dInt (aCons (eVar 0) aNil)) (eVar 1))) n [some (.int a), some (.int b)] S = .next [some (.int (Nat.gcd a b : Nat)), some (.int 0)] S := by
  induction b using Nat.strongRecOn with
  | ind b ih =>
    intro n a S hn
    match n, hn with
    | n + 1, hn =>
      by_cases hb : b = 0
      · subst hb
        rw [while_done (S1 := S) (by simp [eVar, eC, eB, eU, eL, boolOf, eTest, eNotT, eAndT, eOrT, eNot, eAnd, eOr, eIf, aNil, aCons, eTup, eLst, eChain, sSkip, sSeq, sAsg, sPar, sExpr, sRet, sRetN, sIf, sBrk, sCont, sSub, eCall, eKw, runDef, begins, dI0, dI, dSub, dLt, dLe, dGt, dGe, dNeg, dInt, dAbs, dGcd, dDiv, dMod, sBind, bTup, bCons, bNil, bName, eMt, iSeq, iRange, ofRes, flowRes, srcOf])]
        simp
      · have hp : 0 < b := by omega
        have hm := Nat.mod_lt a hp
        rw [while_step (S1 := S) (S2 := S) (ρ2 := [some (.int b), some (.int (a % b : Nat))])]
        · rw [ih (a % b) hm n b S (by omega)]
          rw [Nat.gcd_comm a b, Nat.gcd_rec b a, Nat.gcd_comm]
        · simp [eVar, eC, eB, eU, eL, boolOf, eTest, eNotT, eAndT, eOrT, eNot, eAnd, eOr, eIf, aNil, aCons, eTup, eLst, eChain, sSkip, sSeq, sAsg, sPar, sExpr, sRet, sRetN, sIf, sBrk, sCont, sSub, eCall, eKw, runDef, begins, dI0, dI, dSub, dLt, dLe, dGt, dGe, dNeg, dInt, dAbs, dGcd, dDiv, dMod, sBind, bTup, bCons, bNil, bName, eMt, iSeq, iRange, ofRes, flowRes, srcOf]
          omega
        · have hc : CModA (a : Int) (b : Int) := by
            unfold CModA
            omega
          have e : Int.fmod (a : Int) (b : Int) = ((a % b : Nat) : Int) := by
            rw [Int.fmod_eq_emod_of_nonneg _ (by omega)]
            simp
          simp [eVar, eC, eB, eU, eL, boolOf, eTest, eNotT, eAndT, eOrT, eNot, eAnd, eOr, eIf, aNil, aCons, eTup, eLst, eChain, sSkip, sSeq, sAsg, sPar, sExpr, sRet, sRetN, sIf, sBrk, sCont, sSub, eCall, eKw, runDef, begins, dI0, dI, dSub, dLt, dLe, dGt, dGe, dNeg, dInt, dAbs, dGcd, dDiv, dMod, sBind, bTup, bCons, bNil, bName, eMt, iSeq, iRange, ofRes, flowRes, srcOf, hc, e]
theorem common_ok {a b : Nat} (hb : b < 2 ^ 3000000) {S : Sto} : rf__law_common [.int a, .int b] S = .ok (.int (Nat.gcd a b : Nat)) S := by
  have h : b < fuel := fuel_big (Nat.lt_trans hb (Nat.pow_lt_pow_right (by decide) (by decide)))
  unfold rf__law_common runDef ev__law_common
  rw [seq_next (ρ' := [some (.int (Nat.gcd a b : Nat)), some (.int 0)]) (S' := S)]
  · simp [eVar, eC, eB, eU, eL, boolOf, eTest, eNotT, eAndT, eOrT, eNot, eAnd, eOr, eIf, aNil, aCons, eTup, eLst, eChain, sSkip, sSeq, sAsg, sPar, sExpr, sRet, sRetN, sIf, sBrk, sCont, sSub, eCall, eKw, runDef, begins, dI0, dI, dSub, dLt, dLe, dGt, dGe, dNeg, dInt, dAbs, dGcd, dDiv, dMod, sBind, bTup, bCons, bNil, bName, eMt, iSeq, iRange, ofRes, flowRes, srcOf]
  · unfold sWhile
    exact common_loop fuel a S h
theorem lawlow_ok {a b : Int} (hb : 0 < b) (hs : b.natAbs < 2 ^ 8990) {S : Sto} : rf__law_low [.int a, .int b] S = .ok (dq (low a b)) S := by
  obtain ⟨g, h1, h2, hg, -, -, -⟩ := low_spec (a := a) hb
  have hc : ∀ x, CDivA x (Nat.gcd a.natAbs b.natAbs : Int) := fun x => by
    rw [← hg]
    refine ⟨by omega, Nat.lt_trans (log_lt (k := 8990) ?_ (by decide)) (by decide)⟩
    exact Nat.lt_of_le_of_lt (by omega) hs
  have eb : b = (b.natAbs : Int) := by omega
  have hk : ∀ S, rf__law_common [.int (a.natAbs : Int), .int b] S = .ok (.int (Nat.gcd a.natAbs b.natAbs : Nat)) S := fun S => by
    rw [eb]
    exact common_ok (Nat.lt_trans hs (Nat.pow_lt_pow_right (by decide) (by decide)))
  simp [rf__law_low, ev__law_low, eVar, eC, eB, eU, eL, boolOf, eTest, eNotT, eAndT, eOrT, eNot, eAnd, eOr, eIf, aNil, aCons, eTup, eLst, eChain, sSkip, sSeq, sAsg, sPar, sExpr, sRet, sRetN, sIf, sBrk, sCont, sSub, eCall, eKw, runDef, begins, dI0, dI, dSub, dLt, dLe, dGt, dGe, dNeg, dInt, dAbs, dGcd, dDiv, dMod, sBind, bTup, bCons, bNil, bName, eMt, iSeq, iRange, ofRes, flowRes, srcOf, hk, hc, dTup_ok, dq, low]
theorem lawq_ok {q : Int × Int} (h : Qu q) (hs : q.2.natAbs < 2 ^ 8990) {S : Sto} : rf__law_quotient [dq q] S = .ok (.bl true) S := by
  obtain ⟨a, b⟩ := q
  obtain ⟨h1, h2⟩ := h
  simp at h1 h2 hs
  have eb : b = (b.natAbs : Int) := by omega
  have hk : ∀ S, rf__law_common [.int (a.natAbs : Int), .int b] S = .ok (.int (Nat.gcd a.natAbs b.natAbs : Nat)) S := fun S => by
    rw [eb]
    exact common_ok (Nat.lt_trans hs (Nat.pow_lt_pow_right (by decide) (by decide)))
  have nb : ¬ b < 1 := by omega
  simp [rf__law_quotient, ev__law_quotient, eVar, eC, eB, eU, eL, boolOf, eTest, eNotT, eAndT, eOrT, eNot, eAnd, eOr, eIf, aNil, aCons, eTup, eLst, eChain, sSkip, sSeq, sAsg, sPar, sExpr, sRet, sRetN, sIf, sBrk, sCont, sSub, eCall, eKw, runDef, begins, dI0, dI, dSub, dLt, dLe, dGt, dGe, dNeg, dInt, dAbs, dGcd, dDiv, dMod, sBind, bTup, bCons, bNil, bName, eMt, iSeq, iRange, ofRes, flowRes, srcOf, dq, lw_int, hk, h2, nb]
end LawM
end
section
set_option Elab.async false
set_option linter.all false
set_option maxRecDepth 100000
set_option maxHeartbeats 1000000
/-! K2: kinds of plain values. -/
namespace LawM
open PySem PySem.Spec PyProof.Rows L2 MP
def pln : D → Bool
  | .exn .. => false
  | .wk _ => false
  | .dct _ => false
  | .dtt _ => false
  | .err .. => false
  | _ => true
def isI : D → Bool
  | .int _ => true
  | _ => false
theorem ty_mem {d : D} (h : pln d = true) : tyName d ∈ ["NoneType", "bool", "int", "str", "tuple", "list"] := by
  cases d <;> first
    | (cases h; done)
    | (simp [tyName])
theorem tyd_pln {d : D} (h : pln d = true) : tyd d = true := by
  cases d <;> first
    | (cases h; done)
    | rfl
theorem isi_int {d : D} (h : pln d = true) {S : Sto} : dIsi "int" d S = some (.bl (tyName d == "int" || tyName d == "bool"), S) :=
  isi_of (tyd_pln h) ((by decide +kernel : ∀ t ∈ ["NoneType", "bool", "int", "str", "tuple", "list"], kitB t "int" = some (t == "int" || t == "bool")) _ (ty_mem h))
theorem isi_bool {d : D} (h : pln d = true) {S : Sto} : dIsi "bool" d S = some (.bl (tyName d == "bool"), S) :=
  isi_of (tyd_pln h) ((by decide +kernel : ∀ t ∈ ["NoneType", "bool", "int", "str", "tuple", "list"], kitB t "bool" = some (t == "bool")) _ (ty_mem h))
theorem isi_tup {d : D} (h : pln d = true) {S : Sto} : dIsi "tuple" d S = some (.bl (tyName d == "tuple"), S) :=
  isi_of (tyd_pln h) ((by decide +kernel : ∀ t ∈ ["NoneType", "bool", "int", "str", "tuple", "list"], kitB t "tuple" = some (t == "tuple")) _ (ty_mem h))
theorem isi_str {d : D} (h : pln d = true) {S : Sto} : dIsi "str" d S = some (.bl (tyName d == "str"), S) :=
  isi_of (tyd_pln h) ((by decide +kernel : ∀ t ∈ ["NoneType", "bool", "int", "str", "tuple", "list"], kitB t "str" = some (t == "str")) _ (ty_mem h))
theorem integer_ok {d : D} (h : pln d = true) {S : Sto} : rf_is_integer [d] S = .ok (.bl (isI d)) S := by
  have h1 := isi_int h (S := S)
  have h2 := isi_bool h (S := S)
  cases d <;> first
    | (cases h; done)
    | simp [rf_is_integer, ev_is_integer, eVar, eC, eB, eU, eL, boolOf, eTest, eNotT, eAndT, eOrT, eNot, eAnd, eOr, eIf, aNil, aCons, eTup, eLst, eChain, sSkip, sSeq, sAsg, sPar, sExpr, sRet, sRetN, sIf, sBrk, sCont, sSub, eCall, eKw, runDef, begins, dI0, dI, dSub, dLt, dLe, dGt, dGe, dNeg, dInt, dAbs, dGcd, dDiv, dMod, sBind, bTup, bCons, bNil, bName, eMt, iSeq, iRange, ofRes, flowRes, srcOf, h1, h2, isI, tyName]
theorem whole_ok {d : D} (h : pln d = true) {S : Sto} : rf__law_whole [d] S = .ok (.bl (isI d)) S := by
  have h1 := isi_int h (S := S)
  have h2 := isi_bool h (S := S)
  cases d <;> first
    | (cases h; done)
    | simp [rf__law_whole, ev__law_whole, eVar, eC, eB, eU, eL, boolOf, eTest, eNotT, eAndT, eOrT, eNot, eAnd, eOr, eIf, aNil, aCons, eTup, eLst, eChain, sSkip, sSeq, sAsg, sPar, sExpr, sRet, sRetN, sIf, sBrk, sCont, sSub, eCall, eKw, runDef, begins, dI0, dI, dSub, dLt, dLe, dGt, dGe, dNeg, dInt, dAbs, dGcd, dDiv, dMod, sBind, bTup, bCons, bNil, bName, eMt, iSeq, iRange, ofRes, flowRes, srcOf, h1, h2, isI, tyName]
/-- a value that may be asked -/
def QV : D → Prop
  | .tup xs => xs.length ≤ 1000 ∧ ∀ x ∈ xs, pln x = true
  | d => pln d = true
theorem QV.pl {d : D} (h : QV d) : pln d = true := by
  cases d <;> first
    | exact h
    | rfl
def quoD : D → Bool
  | .tup [.int a, .int b] => decide (1 ≤ b) && decide (Nat.gcd a.natAbs b.natAbs = 1)
  | _ => false
theorem quo_dq {q : Int × Int} (h : Qu q) : quoD (dq q) = true := by
  unfold quoD dq
  simp [h.1, h.2]
theorem quo_at {d : D} (h : quoD d = true) : ∃ q, d = dq q ∧ Qu q := by
  unfold quoD at h
  split at h
  · rename_i a b
    simp only [Bool.and_eq_true, decide_eq_true_eq] at h
    exact ⟨(a, b), rfl, h⟩
  · cases h
theorem if_else {t : EvB} {a r : Es} {ρ : MP.Env} {S : Sto} (h : t ρ S = .ok false S) : sSeq (sIf t a sSkip) r ρ S = r ρ S := seq_next (if_s h)
theorem notT {a : EvB} {ρ : MP.Env} {S S' : Sto} {k j : Bool} (h : a ρ S = .ok k S') (e : (!k) = j) : eNotT a ρ S = .ok j S' := e ▸ not_b h
theorem tup_of {d : D} (h : pln d = true) : (tyName d == "tuple") = true ↔ ∃ xs, d = .tup xs := by
  cases d <;> first
    | (cases h; done)
    | (constructor
       · intro e; exact ⟨_, rfl⟩
       · intro _; rfl)
    | (constructor
       · intro e; revert e; simp [tyName]
       · rintro ⟨xs, e⟩; cases e)
theorem el_ok {g : OpL} {a : Ev} {ρ : MP.Env} {S S1 S2 : Sto} {d z : D} (h : a ρ S = .ok d S1) (h2 : g [d] S1 = some (z, S2)) : eL g (aCons a aNil) ρ S = .ok z S2 := by
  unfold eL aCons aNil
  rw [h, Res.bind_ok]
  simp [h2]
theorem quo_ii {a b : Int} : quoD (.tup [.int a, .int b]) = (decide (1 ≤ b) && decide (Nat.gcd a.natAbs b.natAbs = 1)) := rfl
/-- the first look: a tuple of two -/
theorem two_look {d : D} (h : QV d) {ρ : MP.Env} {S : Sto} (h0 : ρ[0]? = some (some d)) : (∃ x y, d = .tup [x, y] ∧ pln x = true ∧ pln y = true ∧ eOrT (eNotT (eTest (eU (dIsi "tuple") (eVar 0)))) (eTest (eB dNe (eL dLen (aCons (eVar 0) aNil)) (eC (.int 2)))) ρ S = .ok false S) ∨
    (quoD d = false ∧ eOrT (eNotT (eTest (eU (dIsi "tuple") (eVar 0)))) (eTest (eB dNe (eL dLen (aCons (eVar 0) aNil)) (eC (.int 2)))) ρ S = .ok true S) := by
  have hp := h.pl
  have t1 := not_b (test_ok (u_ok (var_ok (S := S) h0) (isi_tup hp)))
  by_cases c : ∃ xs, d = .tup xs
  · obtain ⟨xs, rfl⟩ := c
    rw [show (!(tyName (.tup xs) == "tuple")) = false from rfl] at t1
    have t2 := test_ok (ne_ok (el_ok (g := dLen) (var_ok (S := S) h0) rfl) (c_ok (d := .int 2)))
    by_cases c2 : xs.length = 2
    · match xs, c2, h with
      | [x, y], _, h =>
        refine .inl ⟨x, y, rfl, h.2 x (by simp), h.2 y (by simp), ?_⟩
        exact or_2 t1 t2
    · rw [decide_eq_false (by omega)] at t2
      refine .inr ⟨?_, or_2 t1 t2⟩
      unfold quoD
      split
      · rename_i e
        cases e
        exact absurd rfl c2
      · rfl
  · have e : (tyName d == "tuple") = false := by
      cases q : (tyName d == "tuple") with
      | true => exact absurd ((tup_of hp).mp q) c
      | false => rfl
    rw [e] at t1
    refine .inr ⟨?_, or_t t1⟩
    unfold quoD
    split
    · exact absurd ⟨_, rfl⟩ c
    · rfl
theorem quo_not {x y : D} (h : ¬ (isI x = true ∧ isI y = true)) : quoD (.tup [x, y]) = false := by
  unfold quoD
  split
  · rename_i e
    cases e
    exact absurd ⟨rfl, rfl⟩ h
  · rfl
theorem int_is {x : D} (h : isI x = true) : ∃ i, x = .int i := by
  unfold isI at h
  split at h
  · exact ⟨_, rfl⟩
  · cases h
theorem isq_ok {d : D} (h : QV d) (S : Sto) : rf_is_quotient [d] S = .ok (.bl (quoD d)) S := by
  unfold rf_is_quotient runDef ev_is_quotient
  rw [show begins 3 [d] = [some d, none, none] from rfl]
  rcases two_look h (ρ := [some d, none, none]) (S := S) rfl with ⟨x, y, rfl, px, py, t⟩ | ⟨e, t⟩
  · rw [if_else t]
    have sb : sBind (bTup 2 (bCons (bName 1) (bCons (bName 2) bNil))) (eVar 0) [some (.tup [x, y]), none, none] S = .next [some (.tup [x, y]), some x, some y] S := by
      unfold sBind
      rw [var_ok (d := .tup [x, y]) rfl, ofRes_ok]
      rfl
    rw [seq_next sb]
    have t1 := not_b (test_ok ((call1 (F := rf_is_integer) (var_ok (i := 1) (d := x) (ρ := [some (.tup [x, y]), some x, some y]) (S := S) rfl)).trans (integer_ok px)))
    have t2 := not_b (test_ok ((call1 (F := rf_is_integer) (var_ok (i := 2) (d := y) (ρ := [some (.tup [x, y]), some x, some y]) (S := S) rfl)).trans (integer_ok py)))
    by_cases c1 : isI x = true
    · rw [c1] at t1
      by_cases c2 : isI y = true
      · rw [c2] at t2
        obtain ⟨a, rfl⟩ := int_is c1
        obtain ⟨b, rfl⟩ := int_is c2
        rw [if_else (or_2 t1 t2)]
        have e1 : eB dGe (eVar 2) (eC (.int 1)) [some (.tup [.int a, .int b]), some (.int a), some (.int b)] S = .ok (.bl (decide (1 ≤ b))) S := ge_ok (var_ok rfl) c_ok
        have e2 : eB dEq (eL dGcd (aCons (eVar 1) (aCons (eVar 2) aNil))) (eC (.int 1)) [some (.tup [.int a, .int b]), some (.int a), some (.int b)] S = .ok (.bl (decide (((Nat.gcd a.natAbs b.natAbs : Nat) : Int) = 1))) S := by
          refine eq_ok ?_ c_ok
          unfold eL aCons aNil
          rfl
        rw [quo_ii]
        by_cases c3 : 1 ≤ b
        · rw [decide_eq_true c3] at e1 ⊢
          rw [ret_ret (eAnd_ok e1 e2)]
          have : decide (((Nat.gcd a.natAbs b.natAbs : Nat) : Int) = 1) = decide (Nat.gcd a.natAbs b.natAbs = 1) := decide_eq_decide.mpr (by omega)
          rw [this]
          rfl
        · rw [decide_eq_false c3] at e1 ⊢
          rw [ret_ret (eAnd_f e1)]
          rfl
      · have c2 : isI y = false := by simpa using c2
        rw [c2] at t2
        rw [seq_ret ((if_t (or_2 t1 t2)).trans (ret_ret c_ok)), quo_not (by rw [c2]; simp)]
        rfl
    · have c1 : isI x = false := by simpa using c1
      rw [c1] at t1
      rw [seq_ret ((if_t (or_t t1)).trans (ret_ret c_ok)), quo_not (by rw [c1]; simp)]
      rfl
  · rw [seq_ret ((if_t t).trans (ret_ret c_ok)), e]
    rfl
end LawM
end
section
set_option Elab.async false
set_option linter.all false
set_option maxRecDepth 100000
set_option maxHeartbeats 1000000
/-! K3: quotients told by the law; positive ones; numbers of pictures; places. -/
namespace LawM
open PySem PySem.Spec PyProof.Rows L2 MP
/-- bottoms that may be asked -/
def QB (d : D) : Prop := ∀ a b : Int, d = .tup [.int a, .int b] → b.natAbs < 2 ^ 3000000
theorem ix0 {x y : D} {ρ : MP.Env} {S : Sto} {v : Nat} (h : ρ[v]? = some (some (.tup [x, y]))) : eB dIx (eVar v) (eC (.int 0)) ρ S = .ok x S := b_ok (var_ok h) (c_ok (d := .int ((0 : Nat) : Int))) (ix_tup (k := 0) rfl)
theorem ix1 {x y : D} {ρ : MP.Env} {S : Sto} {v : Nat} (h : ρ[v]? = some (some (.tup [x, y]))) : eB dIx (eVar v) (eC (.int 1)) ρ S = .ok y S := b_ok (var_ok h) (c_ok (d := .int ((1 : Nat) : Int))) (ix_tup (k := 1) rfl)
theorem lawquot_ok {d : D} (h : QV d) (hb : QB d) (S : Sto) : rf__law_quotient [d] S = .ok (.bl (quoD d)) S := by
  unfold rf__law_quotient runDef ev__law_quotient
  rw [show begins 1 [d] = [some d] from rfl]
  rcases two_look h (ρ := [some d]) (S := S) rfl with ⟨x, y, rfl, px, py, t⟩ | ⟨e, t⟩
  · rw [if_else t]
    have t1 := not_b (test_ok ((call1 (F := rf__law_whole) (ix0 (v := 0) (x := x) (y := y) (ρ := [some (.tup [x, y])]) (S := S) rfl)).trans (whole_ok px)))
    have t2 := not_b (test_ok ((call1 (F := rf__law_whole) (ix1 (v := 0) (x := x) (y := y) (ρ := [some (.tup [x, y])]) (S := S) rfl)).trans (whole_ok py)))
    by_cases c1 : isI x = true
    · rw [c1] at t1
      by_cases c2 : isI y = true
      · rw [c2] at t2
        obtain ⟨a, rfl⟩ := int_is c1
        obtain ⟨b, rfl⟩ := int_is c2
        have t3 := test_ok (lt_ok (ix1 (v := 0) (x := .int a) (y := .int b) (ρ := [some (.tup [.int a, .int b])]) (S := S) rfl) (c_ok (d := .int 1)))
        rw [quo_ii]
        by_cases c3 : 1 ≤ b
        · rw [decide_eq_false (by omega : ¬ b < 1)] at t3
          rw [if_else (or_2 t1 (or_2 t2 t3))]
          have eb : b = (b.natAbs : Int) := by omega
          have hk : rf__law_common [.int (a.natAbs : Int), .int b] S = .ok (.int (Nat.gcd a.natAbs b.natAbs : Nat)) S := by
            have := common_ok (a := a.natAbs) (hb a b rfl) (S := S)
            rwa [← eb] at this
          have ea : eL dAbs (aCons (eB dIx (eVar 0) (eC (.int 0))) aNil) [some (.tup [.int a, .int b])] S = .ok (.int (a.natAbs : Int)) S := el_ok (ix0 (v := 0) rfl) rfl
          rw [ret_ret (eq_ok ((call2 (F := rf__law_common) ea (ix1 (v := 0) rfl)).trans hk) (c_ok (d := .int 1))), decide_eq_true c3, Bool.true_and]
          have : decide (((Nat.gcd a.natAbs b.natAbs : Nat) : Int) = 1) = decide (Nat.gcd a.natAbs b.natAbs = 1) := decide_eq_decide.mpr (by omega)
          rw [this]
          rfl
        · rw [decide_eq_true (by omega : b < 1)] at t3
          rw [seq_ret ((if_t (or_2 t1 (or_2 t2 t3))).trans (ret_ret c_ok)), decide_eq_false c3]
          rfl
      · have c2 : isI y = false := by simpa using c2
        rw [c2] at t2
        rw [seq_ret ((if_t (or_2 t1 (or_t t2))).trans (ret_ret c_ok)), quo_not (by rw [c2]; simp)]
        rfl
    · have c1 : isI x = false := by simpa using c1
      rw [c1] at t1
      rw [seq_ret ((if_t (or_t t1)).trans (ret_ret c_ok)), quo_not (by rw [c1]; simp)]
      rfl
  · rw [seq_ret ((if_t t).trans (ret_ret c_ok)), e]
    rfl
/-- the top of a quotient -/
def topD : D → Int
  | .tup [.int a, _] => a
  | _ => 0
def posD (d : D) : Bool := quoD d && decide (0 < topD d)
theorem ispos_ok {d : D} (h : QV d) (S : Sto) : rf_is_positive [d] S = .ok (.bl (posD d)) S := by
  unfold rf_is_positive runDef ev_is_positive
  rw [show begins 1 [d] = [some d] from rfl]
  have e1 := (call1 (F := rf_is_quotient) (var_ok (i := 0) (d := d) (ρ := [some d]) (S := S) rfl)).trans (isq_ok h S)
  unfold posD
  cases c : quoD d with
  | true =>
    obtain ⟨q, rfl, _⟩ := quo_at c
    rw [c] at e1
    rw [ret_ret (eAnd_ok e1 (gt_ok (x := q.1) (y := 0) (ix0 (v := 0) (x := .int q.1) (y := .int q.2) rfl) (c_ok (d := .int 0))))]
    rfl
  | false =>
    rw [c] at e1
    rw [ret_ret (eAnd_f e1)]
    rfl
def refus (f : Str) (S : Sto) : Res D := .exc "NotUsable" ["at", "word"] [.int (-1), .str f] S
theorem raise2 {n f1 f2 : Str} {e1 e2 : Ev} {ρ : MP.Env} {S S1 S2 : Sto} {x y : D} (h1 : e1 ρ S = .ok x S1) (h2 : e2 ρ S1 = .ok y S2) : sRaise n [f1, f2] (aCons e1 (aCons e2 aNil)) ρ S = .exc n [f2, f1] [y, x] ρ S2 := by
  unfold sRaise aCons aNil
  simp [h1, h2]
theorem neg_ok {a : Ev} {ρ : MP.Env} {S S1 : Sto} {x : Int} (h1 : a ρ S = .ok (.int x) S1) : eU dNeg a ρ S = .ok (.int (-x)) S1 := u_ok h1 rfl
theorem no_ok {f : Str} {ρ : MP.Env} {S : Sto} : sRaise "NotUsable" ["word", "at"] (aCons (eC (.str f)) (aCons (eU dNeg (eC (.int 1))) aNil)) ρ S = .exc "NotUsable" ["at", "word"] [.int (-1), .str f] ρ S := raise2 c_ok (neg_ok (x := 1) c_ok)
/-- a number of pictures -/
def cntD : D → Bool
  | .int i => decide (0 ≤ i)
  | _ => false
theorem cnt_look {d : D} (hp : pln d = true) {ρ : MP.Env} {S : Sto} {v : Nat} (h0 : ρ[v]? = some (some d)) : eOrT (eNotT (eTest (eCall 1 rf_is_integer (aCons (eVar v) aNil)))) (eTest (eB dLt (eVar v) (eC (.int 0)))) ρ S = .ok (!cntD d) S := by
  have t1 := not_b (test_ok ((call1 (F := rf_is_integer) (var_ok (S := S) h0)).trans (integer_ok hp)))
  by_cases c : isI d = true
  · rw [c] at t1
    obtain ⟨i, rfl⟩ := int_is c
    have t2 := test_ok (lt_ok (var_ok (S := S) h0) (c_ok (d := .int 0)))
    refine (or_2 t1 t2).trans ?_
    congr 1
    show decide (i < 0) = !decide (0 ≤ i)
    by_cases q : 0 ≤ i
    · rw [decide_eq_true q, decide_eq_false (by omega)]; rfl
    · rw [decide_eq_false q, decide_eq_true (by omega)]; rfl
  · have c : isI d = false := by simpa using c
    rw [c] at t1
    refine (or_t t1).trans ?_
    congr 1
    cases d <;> first
      | (cases c; done)
      | rfl
theorem need_ok {d : D} (hp : pln d = true) (S : Sto) : rf__need_number [d] S = if cntD d = true then .ok .non S else refus "many" S := by
  unfold rf__need_number runDef ev__need_number
  rw [show begins 1 [d] = [some d] from rfl]
  have t := cnt_look hp (v := 0) (ρ := [some d]) (S := S) rfl
  cases c : cntD d with
  | true =>
    rw [c] at t
    rw [if_s t]
    rfl
  | false =>
    rw [c] at t
    rw [(if_t t).trans no_ok]
    rfl
/-- a place -/
def plcD (i : Int) : D → Bool
  | .int j => decide (-4 ≤ j) && decide (j < i)
  | _ => false
theorem chain_ok {f g : Op2} {e1 e2 e3 : Ev} {ρ : MP.Env} {S : Sto} {x y z : Int} {a b : Bool} (h1 : e1 ρ S = .ok (.int x) S) (h2 : e2 ρ S = .ok (.int y) S) (h3 : e3 ρ S = .ok (.int z) S) (k1 : f (.int x) (.int y) S = some (.bl a, S)) (k2 : g (.int y) (.int z) S = some (.bl b, S)) : eChain f g e1 e2 e3 ρ S = .ok (.bl (a && b)) S := by
  unfold eChain
  cases a with
  | true => simp [h1, h2, h3, k1, k2]
  | false => simp [h1, h2, h3, k1]
theorem place_ok {n d : D} (hn : pln n = true) (hd : pln d = true) (S : Sto) : rf_is_place [n, d] S = if cntD n = true then .ok (.bl (plcD (match n with | .int i => i | _ => 0) d)) S else refus "many" S := by
  unfold rf_is_place runDef ev_is_place
  rw [show begins 2 [n, d] = [some n, some d] from rfl]
  have t := cnt_look hn (v := 0) (ρ := [some n, some d]) (S := S) rfl
  cases c : cntD n with
  | true =>
    rw [c] at t
    rw [if_else t]
    have : ∃ i, n = .int i := by
      unfold cntD at c
      split at c
      · exact ⟨_, rfl⟩
      · cases c
    obtain ⟨i, rfl⟩ := this
    have e1 := (call1 (F := rf_is_integer) (var_ok (i := 1) (d := d) (ρ := [some (.int i), some d]) (S := S) rfl)).trans (integer_ok hd)
    by_cases q : isI d = true
    · rw [q] at e1
      obtain ⟨j, rfl⟩ := int_is q
      rw [ret_ret (eAnd_ok e1 (chain_ok (x := -4) (y := j) (z := i) (a := decide (-4 ≤ j)) (b := decide (j < i)) (neg_ok (x := 4) c_ok) (var_ok rfl) (var_ok rfl) rfl rfl))]
      rfl
    · have q : isI d = false := by simpa using q
      rw [q] at e1
      rw [ret_ret (eAnd_f e1)]
      cases d <;> first
        | (cases q; done)
        | rfl
  | false =>
    rw [c] at t
    rw [seq_exc ((if_t t).trans no_ok)]
    rfl
end LawM
end
section
set_option Elab.async false
set_option linter.all false
set_option maxRecDepth 100000
set_option maxHeartbeats 1000000
/-! K4: sides; rows of quotients; sums. -/
namespace LawM
open PySem PySem.Spec PyProof.Rows L2 MP
def sidD : D → Bool
  | .int i => decide (-4 ≤ i) && decide (i ≤ -1)
  | _ => false
theorem sid_at {d : D} (h : sidD d = true) : ∃ i : Int, d = .int i ∧ -4 ≤ i ∧ i ≤ -1 := by
  unfold sidD at h
  split at h
  · simp only [Bool.and_eq_true, decide_eq_true_eq] at h
    exact ⟨_, rfl, h⟩
  · cases h
theorem side_ok {d : D} (hp : pln d = true) (S : Sto) : rf__need_side [d] S = if sidD d = true then .ok .non S else refus "side" S := by
  unfold rf__need_side runDef ev__need_side
  rw [show begins 1 [d] = [some d] from rfl]
  have t1 := not_b (test_ok ((call1 (F := rf_is_integer) (var_ok (i := 0) (d := d) (ρ := [some d]) (S := S) rfl)).trans (integer_ok hp)))
  by_cases c : isI d = true
  · rw [c] at t1
    obtain ⟨i, rfl⟩ := int_is c
    have t2 := not_b (test_ok (chain_ok (f := dLe) (g := dLe) (e1 := eU dNeg (eC (.int 4))) (e2 := eVar 0) (e3 := eU dNeg (eC (.int 1))) (ρ := [some (.int i)]) (S := S) (x := -4) (y := i) (z := -1) (a := decide (-4 ≤ i)) (b := decide (i ≤ -1)) (neg_ok (x := 4) c_ok) (var_ok rfl) (neg_ok (x := 1) c_ok) rfl rfl))
    have t := or_2 t1 t2
    show _ = if (decide (-4 ≤ i) && decide (i ≤ -1)) = true then _ else _
    cases q : (decide (-4 ≤ i) && decide (i ≤ -1)) with
    | true =>
      rw [q] at t
      rw [if_s t]
      rfl
    | false =>
      rw [q] at t
      rw [(if_t t).trans no_ok]
      rfl
  · have c : isI d = false := by simpa using c
    rw [c] at t1
    have e : sidD d = false := by
      cases d <;> first
        | (cases c; done)
        | rfl
    rw [(if_t (or_t t1)).trans no_ok, e]
    rfl
theorem expr_exc {e : Ev} {ρ : MP.Env} {S S1 : Sto} {n : Str} {ns : List Str} {ds : List D} (h : e ρ S = .exc n ns ds S1) : sExpr e ρ S = .exc n ns ds ρ S1 := by
  unfold sExpr
  rw [h]
  rfl
theorem expr_ok {e : Ev} {ρ : MP.Env} {S S1 : Sto} {d : D} (h : e ρ S = .ok d S1) : sExpr e ρ S = .next ρ S1 := by
  unfold sExpr
  rw [h]
  rfl
theorem if_e {t : EvB} {a b : Ev} {ρ : MP.Env} {S : Sto} {k : Bool} (h : t ρ S = .ok k S) : eIf t a b ρ S = if k = true then a ρ S else b ρ S := by
  unfold eIf
  rw [h, Res.bind_ok]
def sAft (i : Int) : Int := if i = -1 then -4 else i + 1
def sOpp (i : Int) : Int := if i < -2 then i + 2 else i - 2
theorem after_ok {d : D} (hp : pln d = true) (S : Sto) : rf_side_after [d] S = if sidD d = true then .ok (.int (sAft (match d with | .int i => i | _ => 0))) S else refus "side" S := by
  unfold rf_side_after runDef ev_side_after
  rw [show begins 1 [d] = [some d] from rfl]
  have e := (call1 (F := rf__need_side) (var_ok (i := 0) (d := d) (ρ := [some d]) (S := S) rfl)).trans (side_ok hp S)
  cases c : sidD d with
  | true =>
    rw [c, if_pos rfl] at e
    obtain ⟨i, rfl, h1, h2⟩ := sid_at c
    rw [seq_next (expr_ok e)]
    have t := test_ok (eq_ok (var_ok (i := 0) (d := .int i) (ρ := [some (.int i)]) (S := S) rfl) (neg_ok (x := 1) c_ok))
    have k := if_e (a := eU dNeg (eC (.int 4))) (b := eB dAdd (eVar 0) (eC (.int 1))) t
    by_cases q : i = -1
    · rw [decide_eq_true q, if_pos rfl] at k
      rw [ret_ret (k.trans (neg_ok (x := 4) c_ok))]
      show _ = Res.ok (D.int (sAft i)) S
      unfold sAft
      rw [if_pos q]
      rfl
    · rw [decide_eq_false q, if_neg (by decide)] at k
      rw [ret_ret (k.trans (add_ok (x := i) (y := 1) (var_ok rfl) c_ok))]
      show _ = Res.ok (D.int (sAft i)) S
      unfold sAft
      rw [if_neg q]
      rfl
  | false =>
    rw [c, if_neg (by decide)] at e
    rw [seq_exc (expr_exc e)]
    rfl
theorem opp_ok {d : D} (hp : pln d = true) (S : Sto) : rf_side_opposite [d] S = if sidD d = true then .ok (.int (sOpp (match d with | .int i => i | _ => 0))) S else refus "side" S := by
  unfold rf_side_opposite runDef ev_side_opposite
  rw [show begins 1 [d] = [some d] from rfl]
  have e := (call1 (F := rf__need_side) (var_ok (i := 0) (d := d) (ρ := [some d]) (S := S) rfl)).trans (side_ok hp S)
  cases c : sidD d with
  | true =>
    rw [c, if_pos rfl] at e
    obtain ⟨i, rfl, h1, h2⟩ := sid_at c
    rw [seq_next (expr_ok e)]
    have t := test_ok (lt_ok (var_ok (i := 0) (d := .int i) (ρ := [some (.int i)]) (S := S) rfl) (neg_ok (x := 2) c_ok))
    have k := if_e (a := eB dAdd (eVar 0) (eC (.int 2))) (b := eB dSub (eVar 0) (eC (.int 2))) t
    by_cases q : i < -2
    · rw [decide_eq_true q, if_pos rfl] at k
      rw [ret_ret (k.trans (add_ok (x := i) (y := 2) (var_ok rfl) c_ok))]
      show _ = Res.ok (D.int (sOpp i)) S
      unfold sOpp
      rw [if_pos q]
      rfl
    · rw [decide_eq_false q, if_neg (by decide)] at k
      rw [ret_ret (k.trans (sub_ok (x := i) (y := 2) (var_ok rfl) c_ok))]
      show _ = Res.ok (D.int (sOpp i)) S
      unfold sOpp
      rw [if_neg q]
      rfl
  | false =>
    rw [c, if_neg (by decide)] at e
    rw [seq_exc (expr_exc e)]
    rfl
/-- two quotients -/
theorem two_ok {x y : D} (hx : QV x) (hy : QV y) (S : Sto) : rf__need_two [x, y] S = if quoD x = true then (if quoD y = true then .ok .non S else refus "other" S) else refus "one" S := by
  unfold rf__need_two runDef ev__need_two
  rw [show begins 2 [x, y] = [some x, some y] from rfl]
  have t1 := not_b (test_ok ((call1 (F := rf_is_quotient) (var_ok (i := 0) (d := x) (ρ := [some x, some y]) (S := S) rfl)).trans (isq_ok hx S)))
  have t2 := not_b (test_ok ((call1 (F := rf_is_quotient) (var_ok (i := 1) (d := y) (ρ := [some x, some y]) (S := S) rfl)).trans (isq_ok hy S)))
  cases c : quoD x with
  | true =>
    rw [c] at t1
    rw [if_else t1]
    cases c2 : quoD y with
    | true =>
      rw [c2] at t2
      rw [if_s t2]
      rfl
    | false =>
      rw [c2] at t2
      rw [(if_t t2).trans no_ok]
      rfl
  | false =>
    rw [c] at t1
    rw [seq_exc ((if_t t1).trans no_ok)]
    rfl
end LawM
end
section
set_option Elab.async false
set_option linter.all false
set_option maxRecDepth 100000
set_option maxHeartbeats 1000000
/-! K5: sums, differences, products, quotients, the order. -/
namespace LawM
open PySem PySem.Spec PyProof.Rows L2 MP
/-- a quotient of some bits -/
structure Qb (q : Int × Int) : Prop where
  qu : Qu q
  b1 : Bt q.1 1200
  b2 : Bt q.2 1200
theorem qv_dq {q : Int × Int} : QV (dq q) := ⟨by show 2 ≤ 1000; decide, fun x hx => by
  simp only [List.mem_cons, List.not_mem_nil, or_false] at hx
  rcases hx with rfl | rfl <;> rfl⟩
theorem mulq {a b : Int} (h : Bt a 1200) (k : Bt b 1200) : CMulA a b := mulA h k (by decide)
theorem bt_mul {a b : Int} (h : Bt a 1200) (k : Bt b 1200) : (a * b).natAbs < 2 ^ 8990 := Nat.lt_of_lt_of_le (Bt.mul h k) (Nat.pow_le_pow_right (by decide) (by decide))
theorem settle_neg {a b : Int} (hb : b < 0) (hs : b.natAbs < 2 ^ 8990) {S : Sto} : rf_settle [.int a, .int b] S = .ok (dq (low (-a) (-b))) S := by
  obtain ⟨g, h1, h2, hg, -, -, -⟩ := low_spec (a := -a) (b := -b) (by omega)
  rw [Int.natAbs_neg, Int.natAbs_neg] at hg
  have hc : ∀ x, CDivA x (-(Nat.gcd a.natAbs b.natAbs : Int)) := fun x => by
    rw [← hg]
    refine ⟨by omega, Nat.lt_trans (log_lt (k := 8990) ?_ (by decide)) (by decide)⟩
    exact Nat.lt_of_le_of_lt (by omega) hs
  have e : ∀ x : Int, x.fdiv (-(Nat.gcd a.natAbs b.natAbs : Int)) = (-x).fdiv (Nat.gcd a.natAbs b.natAbs : Int) := fun x => by
    rw [← Int.neg_fdiv_neg]
    simp
  simp [rf_settle, ev_settle, eVar, eC, eB, eU, eL, boolOf, eTest, eNotT, eAndT, eOrT, eNot, eAnd, eOr, eIf, aNil, aCons, eTup, eLst, eChain, sSkip, sSeq, sAsg, sPar, sExpr, sRet, sRetN, sIf, sBrk, sCont, sSub, eCall, eKw, runDef, begins, dI0, dI, dSub, dLt, dLe, dGt, dGe, dNeg, dInt, dAbs, dGcd, dDiv, dMod, sBind, bTup, bCons, bNil, bName, eMt, iSeq, iRange, ofRes, flowRes, srcOf, hb, hc, dTup_ok, dq, low, e]
section
variable {q r : Int × Int} {ρ : MP.Env} {S : Sto} {v : Nat}
theorem top_at (h : ρ[v]? = some (some (dq q))) : eB dIx (eVar v) (eC (.int 0)) ρ S = .ok (.int q.1) S := ix0 h
theorem bot_at (h : ρ[v]? = some (some (dq q))) : eB dIx (eVar v) (eC (.int 1)) ρ S = .ok (.int q.2) S := ix1 h
theorem need_in (hq : Qb q) (hr : Qb r) {T : Es} : sSeq (sExpr (eCall 2 rf__need_two (aCons (eVar 0) (aCons (eVar 1) aNil)))) T [some (dq q), some (dq r)] S = T [some (dq q), some (dq r)] S := by
  have e := (call2 (F := rf__need_two) (var_ok (i := 0) (d := dq q) (ρ := [some (dq q), some (dq r)]) (S := S) rfl) (var_ok (i := 1) (d := dq r) rfl)).trans (two_ok qv_dq qv_dq S)
  rw [quo_dq hq.qu, quo_dq hr.qu, if_pos rfl, if_pos rfl] at e
  exact seq_next (expr_ok e)
theorem pos2 (hq : Qb q) (hr : Qb r) : 0 < q.2 * r.2 := Int.mul_pos (by have := hq.qu.1; omega) (by have := hr.qu.1; omega)
theorem plus_q (hq : Qb q) (hr : Qb r) : rf_plus [dq q, dq r] S = .ok (dq (low (q.1 * r.2 + r.1 * q.2) (q.2 * r.2))) S := by
  unfold rf_plus runDef ev_plus
  rw [show begins 2 [dq q, dq r] = [some (dq q), some (dq r)] from rfl, need_in hq hr]
  rw [ret_ret ((call2 (F := rf_settle) (add_ok (mul_ok (mulq hq.b1 hr.b2) (top_at (v := 0) rfl) (bot_at (v := 1) rfl)) (mul_ok (mulq hr.b1 hq.b2) (top_at (v := 1) rfl) (bot_at (v := 0) rfl))) (mul_ok (mulq hq.b2 hr.b2) (bot_at (v := 0) rfl) (bot_at (v := 1) rfl))).trans (settle_ok (pos2 hq hr) (bt_mul hq.b2 hr.b2)))]
  rfl
theorem minus_q (hq : Qb q) (hr : Qb r) : rf_minus [dq q, dq r] S = .ok (dq (low (q.1 * r.2 - r.1 * q.2) (q.2 * r.2))) S := by
  unfold rf_minus runDef ev_minus
  rw [show begins 2 [dq q, dq r] = [some (dq q), some (dq r)] from rfl, need_in hq hr]
  rw [ret_ret ((call2 (F := rf_settle) (sub_ok (mul_ok (mulq hq.b1 hr.b2) (top_at (v := 0) rfl) (bot_at (v := 1) rfl)) (mul_ok (mulq hr.b1 hq.b2) (top_at (v := 1) rfl) (bot_at (v := 0) rfl))) (mul_ok (mulq hq.b2 hr.b2) (bot_at (v := 0) rfl) (bot_at (v := 1) rfl))).trans (settle_ok (pos2 hq hr) (bt_mul hq.b2 hr.b2)))]
  rfl
theorem times_q (hq : Qb q) (hr : Qb r) : rf_times [dq q, dq r] S = .ok (dq (low (q.1 * r.1) (q.2 * r.2))) S := by
  unfold rf_times runDef ev_times
  rw [show begins 2 [dq q, dq r] = [some (dq q), some (dq r)] from rfl, need_in hq hr]
  rw [ret_ret ((call2 (F := rf_settle) (mul_ok (mulq hq.b1 hr.b1) (top_at (v := 0) rfl) (top_at (v := 1) rfl)) (mul_ok (mulq hq.b2 hr.b2) (bot_at (v := 0) rfl) (bot_at (v := 1) rfl))).trans (settle_ok (pos2 hq hr) (bt_mul hq.b2 hr.b2)))]
  rfl
theorem less_q (hq : Qb q) (hr : Qb r) : rf_is_less [dq q, dq r] S = .ok (.bl (decide (q.1 * r.2 < r.1 * q.2))) S := by
  unfold rf_is_less runDef ev_is_less
  rw [show begins 2 [dq q, dq r] = [some (dq q), some (dq r)] from rfl, need_in hq hr]
  rw [ret_ret (lt_ok (mul_ok (mulq hq.b1 hr.b2) (top_at (v := 0) rfl) (bot_at (v := 1) rfl)) (mul_ok (mulq hr.b1 hq.b2) (top_at (v := 1) rfl) (bot_at (v := 0) rfl)))]
  rfl
/-- what over tells -/
def ovr (q r : Int × Int) : Int × Int := if 0 < r.1 then low (q.1 * r.2) (q.2 * r.1) else low (-(q.1 * r.2)) (-(q.2 * r.1))
theorem over_q (hq : Qb q) (hr : Qb r) (h0 : r.1 ≠ 0) : rf_over [dq q, dq r] S = .ok (dq (ovr q r)) S := by
  unfold rf_over runDef ev_over
  rw [show begins 2 [dq q, dq r] = [some (dq q), some (dq r)] from rfl, need_in hq hr]
  have t := test_ok (eq_ok (top_at (v := 1) (q := r) (ρ := [some (dq q), some (dq r)]) (S := S) rfl) (c_ok (d := .int 0)))
  rw [decide_eq_false h0] at t
  rw [if_else t]
  have h1 := hq.qu.1
  have k := call2 (F := rf_settle) (mul_ok (mulq hq.b1 hr.b2) (top_at (v := 0) (q := q) (ρ := [some (dq q), some (dq r)]) (S := S) rfl) (bot_at (v := 1) (q := r) rfl)) (mul_ok (mulq hq.b2 hr.b1) (bot_at (v := 0) (q := q) rfl) (top_at (v := 1) (q := r) rfl))
  unfold ovr
  by_cases c : 0 < r.1
  · rw [if_pos c, ret_ret (k.trans (settle_ok (Int.mul_pos (by omega) c) (bt_mul hq.b2 hr.b1)))]
    rfl
  · have : q.2 * r.1 < 0 := Int.mul_neg_of_pos_of_neg (by omega) (by omega)
    rw [if_neg c, ret_ret (k.trans (settle_neg this (bt_mul hq.b2 hr.b1)))]
    rfl
theorem over_0 (hq : Qb q) (hr : Qb r) (h0 : r.1 = 0) : rf_over [dq q, dq r] S = refus "other" S := by
  unfold rf_over runDef ev_over
  rw [show begins 2 [dq q, dq r] = [some (dq q), some (dq r)] from rfl, need_in hq hr]
  have t := test_ok (eq_ok (top_at (v := 1) (q := r) (ρ := [some (dq q), some (dq r)]) (S := S) rfl) (c_ok (d := .int 0)))
  rw [decide_eq_true h0] at t
  rw [seq_exc ((if_t t).trans no_ok)]
  rfl
end
/-- refused -/
theorem two_no {x y : D} (hx : QV x) (hy : QV y) {w : Str} (h : (quoD x = false ∧ w = "one") ∨ (quoD x = true ∧ quoD y = false ∧ w = "other")) (S : Sto) {T : Es} : flowRes (sSeq (sExpr (eCall 2 rf__need_two (aCons (eVar 0) (aCons (eVar 1) aNil)))) T [some x, some y] S) = refus w S := by
  have e := (call2 (F := rf__need_two) (var_ok (i := 0) (d := x) (ρ := [some x, some y]) (S := S) rfl) (var_ok (i := 1) (d := y) rfl)).trans (two_ok hx hy S)
  rcases h with ⟨h1, rfl⟩ | ⟨h1, h2, rfl⟩
  · rw [h1, if_neg (by decide)] at e
    rw [seq_exc (expr_exc e)]
    rfl
  · rw [h1, if_pos rfl, h2, if_neg (by decide)] at e
    rw [seq_exc (expr_exc e)]
    rfl
/-- the five deeds -/
noncomputable def deed : Nat → List D → Sto → Res D
  | 0 => rf_plus
  | 1 => rf_minus
  | 2 => rf_times
  | 3 => rf_over
  | _ => rf_is_less
theorem deed_no {x y : D} (hx : QV x) (hy : QV y) {w : Str} (h : (quoD x = false ∧ w = "one") ∨ (quoD x = true ∧ quoD y = false ∧ w = "other")) (k : Nat) (S : Sto) : deed k [x, y] S = refus w S := by
  unfold deed
  split
  · exact two_no hx hy h S
  · exact two_no hx hy h S
  · exact two_no hx hy h S
  · exact two_no hx hy h S
  · exact two_no hx hy h S
end LawM
end
section
set_option Elab.async false
set_option linter.all false
set_option maxRecDepth 100000
set_option maxHeartbeats 1000000
/-! K6: alike; the families; asked. -/
namespace LawM
open PySem PySem.Spec PyProof.Rows L2 MP
def LikeAt (k : Nat) (d : D) : Prop := ∀ S, rr__law_like k [d, d] S = .ok (.bl true) S
theorem dEq_bl {i j : Bool} {S : Sto} : dEq (.bl i) (.bl j) S = some (.bl (i == j), S) := by
  cases i <;> cases j <;> rfl
theorem isi_f {T : String} {d : D} {k : Bool} {ρ : MP.Env} {S : Sto} {v : Nat} (h : ρ[v]? = some (some d)) (e : dIsi T d S = some (.bl k, S)) : eTest (eU (dIsi T) (eVar v)) ρ S = .ok k S := test_ok (u_ok (var_ok h) e)
theorem like_bl (k : Nat) (b : Bool) : LikeAt (k + 1) (.bl b) := fun S => by
  show runDef 3 (ev__law_like (rr__law_like k)) [.bl b, .bl b] S = _
  unfold runDef ev__law_like
  rw [show begins 3 [D.bl b, .bl b] = [some (.bl b), some (.bl b), none] from rfl]
  rw [if_else (isi_f (v := 1) rfl (isi_tup (d := .bl b) rfl))]
  rw [seq_ret ((if_t (isi_f (v := 1) rfl (isi_bool (d := .bl b) rfl))).trans (ret_ret (eAnd_ok (u_ok (var_ok (i := 0) rfl) (isi_bool (d := .bl b) rfl)) (b_ok (var_ok (i := 0) rfl) (var_ok (i := 1) rfl) dEq_bl))))]
  simp [flowRes]
theorem like_int (k : Nat) (i : Int) : LikeAt (k + 1) (.int i) := fun S => by
  show runDef 3 (ev__law_like (rr__law_like k)) [.int i, .int i] S = _
  unfold runDef ev__law_like
  rw [show begins 3 [D.int i, .int i] = [some (.int i), some (.int i), none] from rfl]
  rw [if_else (isi_f (v := 1) rfl (isi_tup (d := .int i) rfl)), if_else (isi_f (v := 1) rfl (isi_bool (d := .int i) rfl))]
  rw [seq_ret ((if_t (isi_f (v := 1) rfl (isi_int (d := .int i) rfl))).trans (ret_ret (eAnd_ok ((call1 (F := rf__law_whole) (var_ok (i := 0) (d := .int i) rfl)).trans (whole_ok rfl)) (eq_ok (var_ok (i := 0) rfl) (var_ok (i := 1) rfl))))), decide_eq_true rfl]
  rfl
theorem like_str (k : Nat) {w : Str} (hw : okS w = true) : LikeAt (k + 1) (.str w) := fun S => by
  show runDef 3 (ev__law_like (rr__law_like k)) [.str w, .str w] S = _
  unfold runDef ev__law_like
  rw [show begins 3 [D.str w, .str w] = [some (.str w), some (.str w), none] from rfl]
  rw [if_else (isi_f (v := 1) rfl (isi_tup (d := .str w) rfl)), if_else (isi_f (v := 1) rfl (isi_bool (d := .str w) rfl)), if_else (isi_f (v := 1) rfl (isi_int (d := .str w) rfl))]
  rw [ret_ret (eAnd_ok (u_ok (var_ok (i := 0) rfl) (isi_str (d := .str w) rfl)) (b_ok (var_ok (i := 0) rfl) (var_ok (i := 1) rfl) (dEq_str hw hw)))]
  simp [flowRes]
theorem args1' {a : Ev} {ρ : MP.Env} {S S1 : Sto} {x : D} (h : a ρ S = .ok x S1) : aCons a aNil ρ S = .ok [x] S1 := by
  unfold aCons
  rw [h]
  rfl
theorem like_tup (k : Nat) {xs : List D} (hl : xs.length ≤ 1000) (h : ∀ d ∈ xs, LikeAt k d) : LikeAt (k + 1) (.tup xs) := fun S => by
  show runDef 3 (ev__law_like (rr__law_like k)) [.tup xs, .tup xs] S = _
  unfold runDef ev__law_like
  rw [show begins 3 [D.tup xs, .tup xs] = [some (.tup xs), some (.tup xs), none] from rfl]
  obtain ⟨ρ', S', e1, ⟨x, e2⟩, e3⟩ := for_all (st := fun _ => True) (b := bName 2) (body := (sIf (eNotT (eTest (eCall 2 (rr__law_like k) (aCons (eB dIx (eVar 0) (eVar 2)) (aCons (eB dIx (eVar 1) (eVar 2)) aNil)))))
 (sRet (eC (.bl false)))
 sSkip)) (fun i ρ S' => (∃ x, ρ = [some (.tup xs), some (.tup xs), x]) ∧ S' = S) (fun _ _ _ _ => trivial) (rngL 0 xs.length) [some (.tup xs), some (.tup xs), none] S (fun i x ρ S' hx hI => by
      obtain ⟨⟨y, rfl⟩, rfl⟩ := hI
      obtain ⟨hi, rfl⟩ := rng_at hx
      refine ⟨_, _, _, rfl, if_s (not_b (test_ok ?_) (k := true)), ⟨_, rfl⟩, rfl⟩
      have hd := List.getElem?_eq_getElem hi
      exact (call2 (b_ok (var_ok rfl) (var_ok rfl) (ix_tup hd)) (b_ok (var_ok rfl) (var_ok rfl) (ix_tup hd))).trans (h _ (List.getElem_mem hi) _)) ⟨⟨_, rfl⟩, rfl⟩
  subst e2 e3
  have ln : ∀ {v : Nat}, ([some (.tup xs), some (.tup xs), none] : MP.Env)[v]? = some (some (.tup xs)) → eL dLen (aCons (eVar v) aNil) [some (.tup xs), some (.tup xs), none] S' = .ok (.int (xs.length : Nat)) S' := fun hv => el_ok (g := dLen) (var_ok hv) rfl
  have t1 := test_ok (ne_ok (ln (v := 0) rfl) (ln (v := 1) rfl))
  rw [decide_eq_true rfl] at t1
  have t0 := not_b (isi_f (T := "tuple") (v := 0) (ρ := [some (.tup xs), some (.tup xs), none]) (S := S') rfl (isi_tup (d := .tup xs) rfl))
  have e0 := args1' (ln (v := 1) rfl)
  rw [seq_ret ((if_t (isi_f (v := 1) rfl (isi_tup (d := .tup xs) rfl))).trans ((if_else (or_2 t0 t1)).trans ((seq_next (for_rng (n := xs.length) e0 (by omega) e1)).trans (ret_ret c_ok))))]
  rfl
theorem like6 {d : D} (h : LikeAt 6 d) (S : Sto) : rf__law_like [d, d] S = .ok (.bl true) S := h S
def told (v : D) : D := .tup [.str "told", v]
def refd (w : Str) : D := .tup [.str "refused", .str w, .int (-1)]
theorem like_told {k : Nat} {v : D} (h : LikeAt (k + 1) v) : LikeAt (k + 2) (told v) := like_tup (k + 1) (by simp) fun d hd => by
  simp only [List.mem_cons, List.not_mem_nil, or_false] at hd
  rcases hd with rfl | rfl
  · exact like_str k (by decide +kernel)
  · exact h
theorem like_refd {k : Nat} {w : Str} (h : okS w = true) : LikeAt (k + 2) (refd w) := like_tup (k + 1) (by simp) fun d hd => by
  simp only [List.mem_cons, List.not_mem_nil, or_false] at hd
  rcases hd with rfl | rfl | rfl
  · exact like_str k (by decide +kernel)
  · exact like_str k h
  · exact like_int k _
/-- an error NotUsable, caught or made -/
def IsNU (d : D) : Prop := ∃ ns ds, d = .exn "NotUsable" ns ds ∨ d = .err "NotUsable" ns ds
theorem nu_tab {d : D} (h : IsNU d) {tab : List (Str × Bool)} {b : Bool} (e : decL tab "NotUsable" = some b) {ρ : MP.Env} {S : Sto} {v : Nat} (hv : ρ[v]? = some (some d)) : eU (dIsV tab) (eVar v) ρ S = .ok (.bl b) S := by
  refine u_ok (var_ok hv) ?_
  obtain ⟨ns, ds, rfl | rfl⟩ := h <;> (unfold dIsV; simp only [e, Option.map_some])
theorem kin_ok {d : D} (h : IsNU d) (S : Sto) : rf__law_kin [d] S = .ok (.bl true) S := by
  unfold rf__law_kin runDef ev__law_kin
  rw [show begins 1 [d] = [some d] from rfl]
  rw [if_else (or_2 (not_b (k := true) (test_ok (nu_tab h (by decide +kernel) rfl))) (or_2 (not_b (k := true) (test_ok (nu_tab h (by decide +kernel) rfl))) (not_b (k := true) (test_ok (nu_tab h (by decide +kernel) rfl)))))]
  rw [if_else (or_2 (test_ok (nu_tab h (b := false) (by decide +kernel) rfl)) (or_2 (test_ok (nu_tab h (b := false) (by decide +kernel) rfl)) (test_ok (nu_tab h (b := false) (by decide +kernel) rfl))))]
  have e : ∀ {x : Ev}, x [some d] S = .ok (.bl false) S → eNot x [some d] S = .ok (.bl true) S := fun q => by
    unfold eNot
    rw [q, Res.bind_ok]
    rfl
  rw [ret_ret (e (nu_tab h (b := false) (by decide +kernel) rfl))]
  rfl
end LawM
end
section
set_option Elab.async false
set_option linter.all false
set_option maxRecDepth 100000
set_option maxHeartbeats 1000000
/-! K7: asked. -/
namespace LawM
open PySem PySem.Spec PyProof.Rows L2 MP
theorem tryAs_hit {i : Nat} {dec : Str → Option Bool} {body suite : Es} {ρ ρ' : MP.Env} {S S' : Sto} {n : Str} {ns : List Str} {ds : List D} (h : body ρ S = .exc n ns ds ρ' S') (hd : dec n = some true) : sTryAs i dec body suite ρ S = suiteEnd S' (unset i (suite (ρ'.set i (some (.exn n ns ds))) S')) := by
  unfold sTryAs
  rw [h]
  simp only [hd]
theorem tryAs_ret {i : Nat} {dec : Str → Option Bool} {body suite : Es} {ρ : MP.Env} {S S' : Sto} {d : D} (h : body ρ S = .ret d S') : sTryAs i dec body suite ρ S = .ret d S' := by
  unfold sTryAs
  rw [h]
theorem tup2_ok {a b : Ev} {ρ : MP.Env} {S S1 S2 : Sto} {x y : D} (h1 : a ρ S = .ok x S1) (h2 : b ρ S1 = .ok y S2) : eTup (aCons a (aCons b aNil)) ρ S = .ok (.tup [x, y]) S2 := by
  unfold eTup eL aCons aNil
  rw [h1, Res.bind_ok, h2]
  rfl
theorem tup3_ok {a b c : Ev} {ρ : MP.Env} {S S1 S2 S3 : Sto} {x y z : D} (h1 : a ρ S = .ok x S1) (h2 : b ρ S1 = .ok y S2) (h3 : c ρ S2 = .ok z S3) : eTup (aCons a (aCons b (aCons c aNil))) ρ S = .ok (.tup [x, y, z]) S3 := by
  unfold eTup eL aCons aNil
  rw [h1, Res.bind_ok, h2, Res.bind_ok, h3]
  rfl
theorem kw1 {F : List D → Sto → Res D} {a : Ev} {ρ : MP.Env} {S S1 : Sto} {x : D} (h1 : a ρ S = .ok x S1) : eKw 0 1 1 pm01 F aNil (aCons a aNil) ρ S = F [x] S1 := by
  unfold eKw
  rw [show aNil ρ S = .ok [] S from rfl, Res.bind_ok, args1' h1, Res.bind_ok]
  simp [pm01]
theorem kw2r {F : List D → Sto → Res D} {a b : Ev} {ρ : MP.Env} {S S1 S2 : Sto} {x y : D} (h1 : a ρ S = .ok x S1) (h2 : b ρ S1 = .ok y S2) : eKw 0 2 2 pm10 F aNil (aCons a (aCons b aNil)) ρ S = F [y, x] S2 := by
  unfold eKw
  rw [show aNil ρ S = .ok [] S from rfl, Res.bind_ok]
  have : aCons a (aCons b aNil) ρ S = .ok [x, y] S2 := by
    unfold aCons aNil
    rw [h1, Res.bind_ok, h2]
    rfl
  rw [this, Res.bind_ok]
  simp [pm10]
theorem tup_x {e : Ev} {ρ : MP.Env} {S S' : Sto} {n : Str} {ns : List Str} {ds : List D} (q : e ρ S = .exc n ns ds S') : eTup (aCons (eC (.str "told")) (aCons e aNil)) ρ S = .exc n ns ds S' := by
  unfold eTup eL
  have : aCons (eC (.str "told")) (aCons e aNil) ρ S = .exc n ns ds S' := by
    unfold aCons
    rw [c_ok, Res.bind_ok, q]
    rfl
  rw [this]
  rfl
theorem ret_x {e : Ev} {ρ : MP.Env} {S S' : Sto} {n : Str} {ns : List Str} {ds : List D} (q : e ρ S = .exc n ns ds S') : sRet e ρ S = .exc n ns ds ρ S' := by
  unfold sRet
  rw [q]
  rfl
/-- what a deed of two gives -/
def out2 (F : List D → Sto → Res D) : Es := sRet (eTup (aCons (eC (.str "told")) (aCons (eIf (eTest (eVar 3)) (eKw 0 2 2 pm10 F aNil (aCons (eVar 2) (aCons (eVar 1) aNil))) (eCall 2 F (aCons (eVar 1) (aCons (eVar 2) aNil)))) aNil)))
theorem out2_ev {F : List D → Sto → Res D} {k : Nat} {x y : D} {b : Bool} {S : Sto} : eIf (eTest (eVar 3)) (eKw 0 2 2 pm10 F aNil (aCons (eVar 2) (aCons (eVar 1) aNil))) (eCall 2 F (aCons (eVar 1) (aCons (eVar 2) aNil))) [some (.int (k : Nat)), some x, some y, some (.bl b), none] S = F [x, y] S := by
  rw [if_e (test_ok (var_ok (d := .bl b) rfl))]
  cases b with
  | true => exact (if_pos rfl).trans (kw2r (var_ok (i := 2) (d := y) rfl) (var_ok (i := 1) (d := x) rfl))
  | false => exact (if_neg (by decide)).trans (call2 (var_ok (i := 1) (d := x) rfl) (var_ok (i := 2) (d := y) rfl))
def fl2 (r : Res D) (ρ : MP.Env) : MP.Flow := match r with
  | .ok v S => .ret (told v) S
  | .exc n ns ds S => .exc n ns ds ρ S
  | .stuck => .stuck
theorem out2_ok {F : List D → Sto → Res D} {k : Nat} {x y : D} {b : Bool} {S : Sto} (h : F [x, y] S ≠ .stuck) : out2 F [some (.int (k : Nat)), some x, some y, some (.bl b), none] S = fl2 (F [x, y] S) [some (.int (k : Nat)), some x, some y, some (.bl b), none] := by
  unfold out2
  have e := out2_ev (F := F) (k := k) (x := x) (y := y) (b := b) (S := S)
  cases q : F [x, y] S with
  | ok v S' => rw [q] at e; exact ret_ret (tup2_ok c_ok e)
  | exc n ns ds S' => rw [q] at e; exact ret_x (tup_x e)
  | stuck => exact absurd q h
/-- the eight deeds -/
noncomputable def deed8 : Nat → List D → Sto → Res D
  | 0 => rf_plus
  | 1 => rf_minus
  | 2 => rf_times
  | 3 => rf_over
  | 4 => rf_is_less
  | 5 => rf_is_shapes
  | 6 => rf_is_table
  | _ => rf_is_place
theorem dq_t {k j : Nat} {ρ : MP.Env} {S : Sto} : eTest (eB dEq (eVar 0) (eC (.int (j : Nat)))) (some (.int (k : Nat)) :: ρ) S = .ok (decide ((k : Int) = j)) S := test_ok (eq_ok (var_ok (i := 0) rfl) c_ok)
theorem pick_n {k j : Nat} {a r : Es} {ρ : MP.Env} {S : Sto} (h : k ≠ j) : sSeq (sIf (eTest (eB dEq (eVar 0) (eC (.int (j : Nat))))) a sSkip) r (some (.int (k : Nat)) :: ρ) S = r (some (.int (k : Nat)) :: ρ) S := by
  have t := dq_t (k := k) (j := j) (ρ := ρ) (S := S)
  rw [decide_eq_false (by omega)] at t
  exact if_else t
theorem pick_y {k j : Nat} {a r : Es} {ρ : MP.Env} {S : Sto} (h : k = j) : sSeq (sIf (eTest (eB dEq (eVar 0) (eC (.int (j : Nat))))) a sSkip) r (some (.int (k : Nat)) :: ρ) S = sSeq a r (some (.int (k : Nat)) :: ρ) S := by
  have t := dq_t (k := k) (j := j) (ρ := ρ) (S := S)
  rw [decide_eq_true (by omega)] at t
  unfold sSeq
  rw [if_t t]
theorem seq_fl {r : Es} {a : Es} {ρ : MP.Env} {S : Sto} {q : Res D} (h : a ρ S = fl2 q ρ) (hq : q ≠ .stuck) : sSeq a r ρ S = fl2 q ρ := by
  cases q with
  | ok v S' => exact seq_ret h
  | exc n ns ds S' => exact seq_exc h
  | stuck => exact absurd rfl hq
noncomputable def body8 : Es := sSeq (sIf (eTest (eB dEq (eVar 0) (eC (.int ((0 : Nat) : Int))))) (out2 rf_plus) sSkip) (sSeq (sIf (eTest (eB dEq (eVar 0) (eC (.int ((1 : Nat) : Int))))) (out2 rf_minus) sSkip) (sSeq (sIf (eTest (eB dEq (eVar 0) (eC (.int ((2 : Nat) : Int))))) (out2 rf_times) sSkip) (sSeq (sIf (eTest (eB dEq (eVar 0) (eC (.int ((3 : Nat) : Int))))) (out2 rf_over) sSkip)
  (sSeq (sIf (eTest (eB dEq (eVar 0) (eC (.int ((4 : Nat) : Int))))) (out2 rf_is_less) sSkip) (sSeq (sIf (eTest (eB dEq (eVar 0) (eC (.int ((5 : Nat) : Int))))) (out2 rf_is_shapes) sSkip) (sSeq (sIf (eTest (eB dEq (eVar 0) (eC (.int ((6 : Nat) : Int))))) (out2 rf_is_table) sSkip) (out2 rf_is_place)))))))
theorem body8_ok {k : Nat} (hk : k < 8) {x y : D} {b : Bool} {S : Sto} (h : deed8 k [x, y] S ≠ .stuck) : body8 [some (.int (k : Nat)), some x, some y, some (.bl b), none] S = fl2 (deed8 k [x, y] S) [some (.int (k : Nat)), some x, some y, some (.bl b), none] := by
  unfold body8
  match k, hk, h with
  | 0, _, h => rw [pick_y rfl]; exact seq_fl (out2_ok h) h
  | 1, _, h => rw [pick_n (by decide), pick_y rfl]; exact seq_fl (out2_ok h) h
  | 2, _, h => rw [pick_n (by decide), pick_n (by decide), pick_y rfl]; exact seq_fl (out2_ok h) h
  | 3, _, h => rw [pick_n (by decide), pick_n (by decide), pick_n (by decide), pick_y rfl]; exact seq_fl (out2_ok h) h
  | 4, _, h => rw [pick_n (by decide), pick_n (by decide), pick_n (by decide), pick_n (by decide), pick_y rfl]; exact seq_fl (out2_ok h) h
  | 5, _, h => rw [pick_n (by decide), pick_n (by decide), pick_n (by decide), pick_n (by decide), pick_n (by decide), pick_y rfl]; exact seq_fl (out2_ok h) h
  | 6, _, h => rw [pick_n (by decide), pick_n (by decide), pick_n (by decide), pick_n (by decide), pick_n (by decide), pick_n (by decide), pick_y rfl]; exact seq_fl (out2_ok h) h
  | 7, _, h => rw [pick_n (by decide), pick_n (by decide), pick_n (by decide), pick_n (by decide), pick_n (by decide), pick_n (by decide), pick_n (by decide)]; exact out2_ok h
  | k + 8, hk, _ => omega
theorem fields_ok {x : Str} {ρ : MP.Env} {S : Sto} {i : Nat} {a w : D} (h : ρ[i]? = some (some (.exn x ["at", "word"] [a, w]))) : eXf x "word" (eVar i) ρ S = .ok w S ∧ eXf x "at" (eVar i) ρ S = .ok a S := by
  constructor
  · unfold eXf
    rw [var_ok h, Res.bind_ok]
    simp only [if_true]
    rw [show fieldOf "word" ["at", "word"] [a, w] = some w from by simp [fieldOf]; exact fun z => absurd z (by decide +kernel)]
  · unfold eXf
    rw [var_ok h, Res.bind_ok]
    simp only [if_true]
    rw [show fieldOf "at" ["at", "word"] [a, w] = some a from by simp [fieldOf]]
/-- an answer -/
def ans (r : Res D) : Res D := match r with
  | .ok v S => .ok (told v) S
  | .exc _ _ ds S => match ds with
    | [_, .str w] => .ok (refd w) S
    | _ => .stuck
  | .stuck => .stuck
theorem two_told {k : Nat} (hk : k < 8) {x y v : D} {b : Bool} {S S' : Sto} (h : deed8 k [x, y] S = .ok v S') : rf__law_two [.int (k : Nat), x, y, .bl b] S = .ok (told v) S' := by
  unfold rf__law_two runDef
  rw [show begins 5 [.int (k : Nat), x, y, .bl b] = [some (.int (k : Nat)), some x, some y, some (.bl b), none] from rfl]
  have e := body8_ok hk (b := b) (x := x) (y := y) (S := S) (by rw [h]; intro z; cases z)
  rw [h] at e
  exact congrArg flowRes (tryAs_ret (body := body8) e)
theorem two_refd {k : Nat} (hk : k < 8) {x y : D} {w : Str} {b : Bool} {S S' : Sto} (h : deed8 k [x, y] S = refus w S') : rf__law_two [.int (k : Nat), x, y, .bl b] S = .ok (refd w) S' := by
  unfold refus at h
  unfold rf__law_two runDef ev__law_two
  rw [show begins 5 [.int (k : Nat), x, y, .bl b] = [some (.int (k : Nat)), some x, some y, some (.bl b), none] from rfl]
  have e := body8_ok hk (b := b) (x := x) (y := y) (S := S) (by rw [h]; intro z; cases z)
  rw [h] at e
  refine (congrArg flowRes (tryAs_hit (body := body8) e (by unfold dec1; rw [if_pos rfl]))).trans ?_
  simp only [List.set_cons_zero, List.set_cons_succ]
  have t := not_b (test_ok ((call1 (F := rf__law_kin) (var_ok (i := 4) (d := .exn "NotUsable" ["at", "word"] [.int (-1), .str w]) (ρ := [some (.int (k : Nat)), some x, some y, some (.bl b), some (.exn "NotUsable" ["at", "word"] [.int (-1), .str w])]) (S := S') rfl)).trans (kin_ok ⟨_, _, .inl rfl⟩ S')))
  have f := fields_ok (x := "NotUsable") (S := S') (i := 4) (a := .int (-1)) (w := .str w) (ρ := [some (.int (k : Nat)), some x, some y, some (.bl b), some (.exn "NotUsable" ["at", "word"] [.int (-1), .str w])]) rfl
  rw [if_else t, ret_ret (tup3_ok c_ok f.1 f.2)]
  have q : suiteEnd S' (unset 4 (.ret (refd w) S')) = .ret (refd w) S' := by
    unfold unset suiteEnd
    exact keepIf_pos ⟨by simp [refd, noX, noXL], rfl⟩
  exact congrArg flowRes q
end LawM
end
section
set_option Elab.async false
set_option linter.all false
set_option maxRecDepth 100000
set_option maxHeartbeats 1000000
/-! K8: letters; one value asked. -/
namespace LawM
open PySem PySem.Spec PyProof.Rows L2 MP
theorem okS_str (s : String) : okS (Str.ofString s) = true := by
  rw [Str.ofString_eq_toList]
  unfold okS PyData.strOk
  simp only [List.all_toArray, List.all_map, List.all_eq_true, Function.comp, decide_eq_true_eq]
  intro c _
  have h : c.val.toNat < 0xd800 ∨ (0xdfff < c.val.toNat ∧ c.val.toNat < 0x110000) := c.valid
  show c.val.toNat < 0x110000
  omega
def letS (i : Int) : Str := if i < 0 then ((["W", "N", "E", "S"] : List Str).getD (i + 4).toNat "W") else toString i
def plD : D → Bool
  | .int i => decide (-4 ≤ i)
  | _ => false
/-- small enough for str -/
def Sm (d : D) : Prop := ∀ i, d = .int i → i.natAbs.log2 < 1920
theorem letter_ok {d : D} (hp : pln d = true) (hs : Sm d) (S : Sto) : rf_place_letter [d] S = if plD d = true then .ok (.str (letS (match d with | .int i => i | _ => 0))) S else refus "place" S := by
  unfold rf_place_letter runDef ev_place_letter
  rw [show begins 1 [d] = [some d] from rfl]
  have t1 := not_b (test_ok ((call1 (F := rf_is_integer) (var_ok (i := 0) (d := d) (ρ := [some d]) (S := S) rfl)).trans (integer_ok hp)))
  by_cases c : isI d = true
  · rw [c] at t1
    obtain ⟨i, rfl⟩ := int_is c
    have t2 := test_ok (lt_ok (var_ok (i := 0) (d := .int i) (ρ := [some (.int i)]) (S := S) rfl) (neg_ok (x := 4) c_ok))
    have t := or_2 t1 t2
    show _ = if decide (-4 ≤ i) = true then _ else _
    by_cases q : -4 ≤ i
    · rw [decide_eq_false (by omega : ¬ i < -4)] at t
      rw [if_else t, decide_eq_true q, if_pos rfl]
      have t3 := test_ok (lt_ok (var_ok (i := 0) (d := .int i) (ρ := [some (.int i)]) (S := S) rfl) (c_ok (d := .int 0)))
      have k := if_e (a := (eB dIx (eC (.tup [(.str "W"), (.str "N"), (.str "E"), (.str "S")])) (eB dAdd (eVar 0) (eC (.int 4))))) (b := (eL dStr (aCons (eVar 0) aNil))) t3
      show _ = Res.ok (D.str (letS i)) S
      unfold letS
      by_cases n : i < 0
      · rw [decide_eq_true n, if_pos rfl] at k
        rw [if_pos n]
        obtain ⟨m, hm⟩ : ∃ m : Nat, i + 4 = (m : Int) := ⟨(i + 4).toNat, by omega⟩
        have hm4 : m < 4 := by omega
        have e := b_ok (g := dIx) (c_ok (d := .tup [(.str "W"), (.str "N"), (.str "E"), (.str "S")]) (ρ := [some (.int i)]) (S := S)) (add_ok (x := i) (y := 4) (var_ok (i := 0) rfl) c_ok) (z := .str ((["W", "N", "E", "S"] : List Str).getD m "W")) (S3 := S) (by
          rw [hm]
          refine ix_tup ?_
          match m, hm4 with
          | 0, _ => rfl
          | 1, _ => rfl
          | 2, _ => rfl
          | 3, _ => rfl)
        rw [ret_ret (k.trans e), hm, Int.toNat_natCast]
        rfl
      · rw [decide_eq_false n, if_neg (by decide)] at k
        rw [if_neg n]
        have e : eL dStr (aCons (eVar 0) aNil) [some (.int i)] S = .ok (.str (toString i)) S := el_ok (var_ok (d := .int i) rfl) (by
          unfold dStr
          simp only [hs i rfl, if_true])
        rw [ret_ret (k.trans e)]
        rfl
    · rw [decide_eq_true (by omega : i < -4)] at t
      rw [seq_exc ((if_t t).trans no_ok), decide_eq_false q]
      rfl
  · have c : isI d = false := by simpa using c
    rw [c] at t1
    have e : plD d = false := by
      cases d <;> first
        | (cases c; done)
        | rfl
    rw [seq_exc ((if_t (or_t t1)).trans no_ok), e]
    rfl
/-- what a deed of one gives -/
def out1 (F : List D → Sto → Res D) : Es := sRet (eTup (aCons (eC (.str "told")) (aCons (eIf (eTest (eVar 2)) (eKw 0 1 1 pm01 F aNil (aCons (eVar 1) aNil)) (eCall 1 F (aCons (eVar 1) aNil))) aNil)))
theorem out1_ok {F : List D → Sto → Res D} {k : Nat} {x : D} {b : Bool} {S : Sto} (h : F [x] S ≠ .stuck) : out1 F [some (.int (k : Nat)), some x, some (.bl b), none] S = fl2 (F [x] S) [some (.int (k : Nat)), some x, some (.bl b), none] := by
  unfold out1
  have e : eIf (eTest (eVar 2)) (eKw 0 1 1 pm01 F aNil (aCons (eVar 1) aNil)) (eCall 1 F (aCons (eVar 1) aNil)) [some (.int (k : Nat)), some x, some (.bl b), none] S = F [x] S := by
    rw [if_e (test_ok (var_ok (d := .bl b) rfl))]
    cases b with
    | true => exact (if_pos rfl).trans (kw1 (var_ok (i := 1) (d := x) rfl))
    | false => exact (if_neg (by decide)).trans (call1 (var_ok (i := 1) (d := x) rfl))
  cases q : F [x] S with
  | ok v S' => rw [q] at e; exact ret_ret (tup2_ok c_ok e)
  | exc n ns ds S' => rw [q] at e; exact ret_x (tup_x e)
  | stuck => exact absurd q h
noncomputable def deed6 : Nat → List D → Sto → Res D
  | 0 => rf_is_integer
  | 1 => rf_is_quotient
  | 2 => rf_is_positive
  | 3 => rf_side_after
  | 4 => rf_side_opposite
  | _ => rf_place_letter
noncomputable def body6 : Es := sSeq (sIf (eTest (eB dEq (eVar 0) (eC (.int ((0 : Nat) : Int))))) (out1 rf_is_integer) sSkip) (sSeq (sIf (eTest (eB dEq (eVar 0) (eC (.int ((1 : Nat) : Int))))) (out1 rf_is_quotient) sSkip) (sSeq (sIf (eTest (eB dEq (eVar 0) (eC (.int ((2 : Nat) : Int))))) (out1 rf_is_positive) sSkip)
  (sSeq (sIf (eTest (eB dEq (eVar 0) (eC (.int ((3 : Nat) : Int))))) (out1 rf_side_after) sSkip) (sSeq (sIf (eTest (eB dEq (eVar 0) (eC (.int ((4 : Nat) : Int))))) (out1 rf_side_opposite) sSkip) (out1 rf_place_letter)))))
theorem body6_ok {k : Nat} (hk : k < 6) {x : D} {b : Bool} {S : Sto} (h : deed6 k [x] S ≠ .stuck) : body6 [some (.int (k : Nat)), some x, some (.bl b), none] S = fl2 (deed6 k [x] S) [some (.int (k : Nat)), some x, some (.bl b), none] := by
  unfold body6
  match k, hk, h with
  | 0, _, h => rw [pick_y rfl]; exact seq_fl (out1_ok h) h
  | 1, _, h => rw [pick_n (by decide), pick_y rfl]; exact seq_fl (out1_ok h) h
  | 2, _, h => rw [pick_n (by decide), pick_n (by decide), pick_y rfl]; exact seq_fl (out1_ok h) h
  | 3, _, h => rw [pick_n (by decide), pick_n (by decide), pick_n (by decide), pick_y rfl]; exact seq_fl (out1_ok h) h
  | 4, _, h => rw [pick_n (by decide), pick_n (by decide), pick_n (by decide), pick_n (by decide), pick_y rfl]; exact seq_fl (out1_ok h) h
  | 5, _, h => rw [pick_n (by decide), pick_n (by decide), pick_n (by decide), pick_n (by decide), pick_n (by decide)]; exact out1_ok h
  | k + 6, hk, _ => omega
theorem one_told {k : Nat} (hk : k < 6) {x v : D} {b : Bool} {S S' : Sto} (h : deed6 k [x] S = .ok v S') : rf__law_single [.int (k : Nat), x, .bl b] S = .ok (told v) S' := by
  unfold rf__law_single runDef
  rw [show begins 4 [.int (k : Nat), x, .bl b] = [some (.int (k : Nat)), some x, some (.bl b), none] from rfl]
  have e := body6_ok hk (b := b) (x := x) (S := S) (by rw [h]; intro z; cases z)
  rw [h] at e
  exact congrArg flowRes (tryAs_ret (body := body6) e)
theorem one_refd {k : Nat} (hk : k < 6) {x : D} {w : Str} {b : Bool} {S S' : Sto} (h : deed6 k [x] S = refus w S') : rf__law_single [.int (k : Nat), x, .bl b] S = .ok (refd w) S' := by
  unfold refus at h
  unfold rf__law_single runDef ev__law_single
  rw [show begins 4 [.int (k : Nat), x, .bl b] = [some (.int (k : Nat)), some x, some (.bl b), none] from rfl]
  have e := body6_ok hk (b := b) (x := x) (S := S) (by rw [h]; intro z; cases z)
  rw [h] at e
  refine (congrArg flowRes (tryAs_hit (body := body6) e (by unfold dec1; rw [if_pos rfl]))).trans ?_
  simp only [List.set_cons_zero, List.set_cons_succ]
  have t := not_b (test_ok ((call1 (F := rf__law_kin) (var_ok (i := 3) (d := .exn "NotUsable" ["at", "word"] [.int (-1), .str w]) (ρ := [some (.int (k : Nat)), some x, some (.bl b), some (.exn "NotUsable" ["at", "word"] [.int (-1), .str w])]) (S := S') rfl)).trans (kin_ok ⟨_, _, .inl rfl⟩ S')))
  have f := fields_ok (x := "NotUsable") (S := S') (i := 3) (a := .int (-1)) (w := .str w) (ρ := [some (.int (k : Nat)), some x, some (.bl b), some (.exn "NotUsable" ["at", "word"] [.int (-1), .str w])]) rfl
  rw [if_else t, ret_ret (tup3_ok c_ok f.1 f.2)]
  have q : suiteEnd S' (unset 3 (.ret (refd w) S')) = .ret (refd w) S' := by
    unfold unset suiteEnd
    exact keepIf_pos ⟨by simp [refd, noX, noXL], rfl⟩
  exact congrArg flowRes q
end LawM
end
section
set_option Elab.async false
set_option linter.all false
set_option maxRecDepth 100000
set_option maxHeartbeats 1000000
/-! K9: one value alone. -/
namespace LawM
open PySem PySem.Spec PyProof.Rows L2 MP
/-- a value of the law's menu -/
structure Men (v : D) : Prop where
  qv : QV v
  qb : QB v
  sm : Sm v
def intD : D → Int
  | .int i => i
  | _ => 0
def due (v : D) : Nat → D
  | 0 => told (.bl (isI v))
  | 1 => told (.bl (quoD v))
  | 2 => told (.bl (posD v))
  | 3 => if sidD v = true then told (.int (sAft (intD v))) else refd "side"
  | 4 => if sidD v = true then told (.int (sOpp (intD v))) else refd "side"
  | _ => if plD v = true then told (.str (letS (intD v))) else refd "place"
theorem one_ok {v : D} (h : Men v) (b : Bool) {k : Nat} (hk : k < 6) (S : Sto) : rf__law_single [.int (k : Nat), v, .bl b] S = .ok (due v k) S := by
  have hp := h.qv.pl
  match k, hk with
  | 0, hk => exact one_told hk (integer_ok hp)
  | 1, hk => exact one_told hk (isq_ok h.qv S)
  | 2, hk => exact one_told hk (ispos_ok h.qv S)
  | 3, hk =>
    have e := after_ok hp S
    show _ = Res.ok (if sidD v = true then told (.int (sAft (intD v))) else refd "side") S
    cases c : sidD v with
    | true =>
      rw [c, if_pos rfl] at e
      rw [if_pos rfl]
      obtain ⟨i, rfl, _, _⟩ := sid_at c
      exact one_told hk e
    | false =>
      rw [c, if_neg (by decide)] at e
      rw [if_neg (by decide)]
      exact one_refd hk e
  | 4, hk =>
    have e := opp_ok hp S
    show _ = Res.ok (if sidD v = true then told (.int (sOpp (intD v))) else refd "side") S
    cases c : sidD v with
    | true =>
      rw [c, if_pos rfl] at e
      rw [if_pos rfl]
      obtain ⟨i, rfl, _, _⟩ := sid_at c
      exact one_told hk e
    | false =>
      rw [c, if_neg (by decide)] at e
      rw [if_neg (by decide)]
      exact one_refd hk e
  | 5, hk =>
    have e := letter_ok hp h.sm S
    show _ = Res.ok (if plD v = true then told (.str (letS (intD v))) else refd "place") S
    cases c : plD v with
    | true =>
      rw [c, if_pos rfl] at e
      rw [if_pos rfl]
      have : ∃ i, v = .int i := by
        unfold plD at c
        split at c
        · exact ⟨_, rfl⟩
        · cases c
      obtain ⟨i, rfl⟩ := this
      exact one_told hk e
    | false =>
      rw [c, if_neg (by decide)] at e
      rw [if_neg (by decide)]
      exact one_refd hk e
  | k + 6, hk => omega
theorem okS_let (i : Int) : okS (letS i) = true := by
  unfold letS
  split
  · have : ∀ m : Nat, okS ((["W", "N", "E", "S"] : List Str).getD m "W") = true := fun m => by
      match m with
      | 0 => decide +kernel
      | 1 => decide +kernel
      | 2 => decide +kernel
      | 3 => decide +kernel
      | m + 4 => exact (by decide +kernel : okS "W" = true)
    exact this _
  · exact okS_str _
theorem like_due (v : D) (k : Nat) : LikeAt 6 (due v k) := by
  unfold due
  split
  · exact like_told (k := 4) (like_bl 4 _)
  · exact like_told (k := 4) (like_bl 4 _)
  · exact like_told (k := 4) (like_bl 4 _)
  · split
    · exact like_told (k := 4) (like_int 4 _)
    · exact like_refd (k := 4) (by decide +kernel)
  · split
    · exact like_told (k := 4) (like_int 4 _)
    · exact like_refd (k := 4) (by decide +kernel)
  · split
    · exact like_told (k := 4) (like_str 4 (okS_let _))
    · exact like_refd (k := 4) (by decide +kernel)
theorem app_at {S : Sto} {l : Nat} {xs : List D} (h : S[l]? = some xs) (G : Sto) : (S ++ G)[l]? = some xs := by
  rw [List.getElem?_append_left (List.getElem?_eq_some_iff.mp h).1]
  exact h
theorem at_end (S : Sto) (xs : List D) : (S ++ [xs])[S.length]? = some xs := by
  rw [List.getElem?_append_right (Nat.le_refl _), Nat.sub_self]
  rfl
theorem app_next {v l : Nat} {e : Ev} {ρ : MP.Env} {S G : Sto} {acc : List D} {d : D} (hv : ρ[v]? = some (some (.lst l))) (he : e ρ S = .ok d (S ++ G)) (hl : S[l]? = some acc) (ha : acc.length < 1000000) : sExpr (eMt mAppend (eVar v) (aCons e aNil)) ρ S = .next ρ ((S ++ G).set l (acc ++ [d])) := by
  refine expr_ok (d := .non) ?_
  unfold eMt
  rw [var_ok hv, Res.bind_ok]
  simp only [args1' he, Res.bind_ok]
  unfold mAppend
  simp only [app_at hl G, Option.bind_some]
  rw [if_pos (show acc.length < most from ha), lift_some]
theorem al_cons {e : Ev} {a : EvA} {ρ : MP.Env} {S S1 S2 : Sto} {d : D} {ds : List D} (h : e ρ S = .ok d S1) (h2 : a ρ S1 = .ok ds S2) : aCons e a ρ S = .ok (d :: ds) S2 := by
  unfold aCons
  rw [h, Res.bind_ok, h2]
  rfl
theorem al_nil {ρ : MP.Env} {S : Sto} : aNil ρ S = .ok [] S := rfl
theorem al_lst {a : EvA} {ρ : MP.Env} {S S1 : Sto} {ds : List D} (h : a ρ S = .ok ds S1) (hl : ds.length ≤ 1000) : eLst a ρ S = .ok (.lst S1.length) (S1 ++ [ds]) := by
  unfold eLst eL
  rw [h, Res.bind_ok, dLst_ok hl, lift_some]
end LawM
end
section
set_option Elab.async false
set_option linter.all false
set_option maxRecDepth 100000
set_option maxHeartbeats 1000000
/-! K10: all of one value. -/
namespace LawM
open PySem PySem.Spec PyProof.Rows L2 MP
/-- a list that is filled -/
def Fil (S : Sto) (lo : Nat) (acc : List D) (T : Sto) : Prop := S.length ≤ lo ∧ (∃ G, T = S ++ G) ∧ T[lo]? = some acc
theorem Fil.app {S T H : Sto} {lo v : Nat} {acc : List D} {ρ : MP.Env} {e : Ev} {d : D} (h : Fil S lo acc T) (hv : ρ[v]? = some (some (.lst lo))) (he : e ρ T = .ok d (T ++ H)) (ha : acc.length < 1000) : ∃ T', sExpr (eMt mAppend (eVar v) (aCons e aNil)) ρ T = .next ρ T' ∧ Fil S lo (acc ++ [d]) T' := by
  obtain ⟨ge, ⟨G, rfl⟩, h1⟩ := h
  refine ⟨_, app_next hv he h1 (by omega), ge, ⟨(G ++ H).set (lo - S.length) (acc ++ [d]), ?_⟩, ?_⟩
  · rw [List.append_assoc, List.set_append_right _ _ ge]
  · rw [List.getElem?_set_self]
    have := (List.getElem?_eq_some_iff.mp h1).1
    rw [List.length_append]
    omega
theorem lit4 {a b c d : Int} {ρ : MP.Env} {T : Sto} {e1 e2 e3 e4 : Ev} (h1 : ∀ S, e1 ρ S = .ok (.int a) S) (h2 : ∀ S, e2 ρ S = .ok (.int b) S) (h3 : ∀ S, e3 ρ S = .ok (.int c) S) (h4 : ∀ S, e4 ρ S = .ok (.int d) S) {m : Nat} (hm : m < 4) {ei : Ev} (hi : ∀ S, ei ρ S = .ok (.int (m : Nat)) S) :
    eB dIx (eLst (aCons e1 (aCons e2 (aCons e3 (aCons e4 aNil))))) ei ρ T = .ok (.int (([a, b, c, d] : List Int).getD m 0)) (T ++ [[.int a, .int b, .int c, .int d]]) := by
  refine b_ok (al_lst (al_cons (h1 _) (al_cons (h2 _) (al_cons (h3 _) (al_cons (h4 _) al_nil)))) (by simp)) (hi _) (ix_lst (at_end _ _) ?_)
  match m, hm with
  | 0, _ => rfl
  | 1, _ => rfl
  | 2, _ => rfl
  | 3, _ => rfl
theorem wnes {m : Nat} (hm : m < 4) {T : Sto} : dIx (.str "WNES") (.int (m : Nat)) T = some (.str ((["W", "N", "E", "S"] : List Str).getD m "W"), T) := by
  have key : ∀ m, m < 4 → (atI ("WNES" : Str).cps.toList ((m : Nat) : Int)).map (fun k => (⟨#[k]⟩ : Str)) = some ((["W", "N", "E", "S"] : List Str).getD m "W") := by decide +kernel
  have k := key m hm
  unfold dIx
  simp only []
  rw [if_pos (by decide +kernel)]
  cases q : atI ("WNES" : Str).cps.toList ((m : Nat) : Int) with
  | none => rw [q] at k; cases k
  | some c =>
    rw [q] at k
    simp only [Option.map_some, Option.some.injEq] at k ⊢
    rw [k]
@[reducible] def EA (v : D) (b : Bool) (a2 a3 a4 : Option D) : MP.Env := [some v, some (.bl b), a2, a3, a4]
theorem sidT {v : D} (hp : pln v = true) {b : Bool} {a2 a3 a4 : Option D} (S : Sto) : eAnd (eCall 1 rf__law_whole (aCons (eVar 0) aNil)) (eAnd (eB dLe (eU dNeg (eC (.int 4))) (eVar 0)) (eB dLt (eVar 0) (eC (.int 0)))) (EA v b a2 a3 a4) S = .ok (.bl (sidD v)) S := by
  have e1 := (call1 (F := rf__law_whole) (var_ok (i := 0) (d := v) (ρ := EA v b a2 a3 a4) (S := S) rfl)).trans (whole_ok hp)
  by_cases c : isI v = true
  · rw [c] at e1
    obtain ⟨i, rfl⟩ := int_is c
    refine (eAnd_ok e1 (d := .bl (sidD (.int i))) (S2 := S) ?_)
    have e2 : eB dLe (eU dNeg (eC (.int 4))) (eVar 0) (EA (.int i) b a2 a3 a4) S = .ok (.bl (decide (-4 ≤ i))) S := le_ok (neg_ok (x := 4) c_ok) (var_ok rfl)
    have e3 : eB dLt (eVar 0) (eC (.int 0)) (EA (.int i) b a2 a3 a4) S = .ok (.bl (decide (i < 0))) S := lt_ok (var_ok rfl) c_ok
    show _ = Res.ok (D.bl (decide (-4 ≤ i) && decide (i ≤ -1))) S
    by_cases q : -4 ≤ i
    · rw [decide_eq_true q] at e2 ⊢
      rw [eAnd_ok e2 e3, Bool.true_and]
      rw [show decide (i < 0) = decide (i ≤ -1) from decide_eq_decide.mpr (by omega)]
    · rw [decide_eq_false q] at e2 ⊢
      rw [eAnd_f e2]
      rfl
  · have c : isI v = false := by simpa using c
    rw [c] at e1
    rw [eAnd_f e1]
    cases v <;> first
      | (cases c; done)
      | rfl
theorem posT {v : D} (h : Men v) {b : Bool} {a2 a3 a4 : Option D} (S : Sto) : eAnd (eCall 1 rf__law_quotient (aCons (eVar 0) aNil)) (eB dGt (eB dIx (eVar 0) (eC (.int 0))) (eC (.int 0))) (EA v b a2 a3 a4) S = .ok (.bl (posD v)) S := by
  have e1 := (call1 (F := rf__law_quotient) (var_ok (i := 0) (d := v) (ρ := EA v b a2 a3 a4) (S := S) rfl)).trans (lawquot_ok h.qv h.qb S)
  unfold posD
  cases c : quoD v with
  | true =>
    obtain ⟨q, rfl, _⟩ := quo_at c
    rw [c] at e1
    rw [eAnd_ok e1 (gt_ok (x := q.1) (y := 0) (top_at (v := 0) rfl) (c_ok (d := .int 0)))]
    rfl
  | false =>
    rw [c] at e1
    rw [eAnd_f e1]
    rfl
theorem alone_ok {v : D} (h : Men v) (b : Bool) (S : Sto) : ∃ G, rf__law_alone [v, .bl b] S = .ok (.bl true) (S ++ G) := by
  have hp := h.qv.pl
  unfold rf__law_alone runDef ev__law_alone
  rw [show begins 5 [v, .bl b] = EA v b none none none from rfl]
  rw [seq_next (ret_asg (sidT hp S))]
  simp only [List.set_cons_zero, List.set_cons_succ]
  have w1 : ∀ {a2 a3 a4 : Option D} {T : Sto}, eCall 1 rf__law_whole (aCons (eVar 0) aNil) (EA v b a2 a3 a4) T = .ok (.bl (isI v)) T := fun {a2 a3 a4 T} => (call1 (F := rf__law_whole) (var_ok (i := 0) (d := v) rfl)).trans (whole_ok hp)
  have q1 : ∀ {a2 a3 a4 : Option D} {T : Sto}, eCall 1 rf__law_quotient (aCons (eVar 0) aNil) (EA v b a2 a3 a4) T = .ok (.bl (quoD v)) T := fun {a2 a3 a4 T} => (call1 (F := rf__law_quotient) (var_ok (i := 0) (d := v) rfl)).trans (lawquot_ok h.qv h.qb T)
  have b1 : eLst (aCons (eTup (aCons (eC (.str "told")) (aCons (eCall 1 rf__law_whole (aCons (eVar 0) aNil)) aNil))) (aCons (eTup (aCons (eC (.str "told")) (aCons (eCall 1 rf__law_quotient (aCons (eVar 0) aNil)) aNil))) aNil)) (EA v b (some (.bl (sidD v))) none none) S = .ok (.lst S.length) (S ++ [[due v 0, due v 1]]) := al_lst (al_cons (tup2_ok (c_ok (d := .str "told")) w1) (al_cons (tup2_ok (c_ok (d := .str "told")) q1) al_nil)) (by simp)
  rw [seq_next (ret_asg b1)]
  simp only [List.set_cons_zero, List.set_cons_succ]
  have F1 : Fil S S.length [due v 0, due v 1] (S ++ [[due v 0, due v 1]]) := ⟨Nat.le_refl _, ⟨_, rfl⟩, at_end _ _⟩
  obtain ⟨T2, s2, F2⟩ := F1.app (v := 3) (H := []) (ρ := EA v b (some (.bl (sidD v))) (some (.lst S.length)) none) rfl (by rw [List.append_nil]; exact tup2_ok (c_ok (d := .str "told")) (posT h _)) (by simp)
  rw [seq_next s2]
  have F2 : Fil S S.length [due v 0, due v 1, due v 2] T2 := F2
  obtain ⟨T5, s5, F5⟩ : ∃ T5, sIf (eTest (eVar 2))
      (sSeq (sExpr (eMt mAppend (eVar 3) (aCons (eTup (aCons (eC (.str "told")) (aCons (eB dIx (eLst (aCons (eU dNeg (eC (.int 3))) (aCons (eU dNeg (eC (.int 2))) (aCons (eU dNeg (eC (.int 1))) (aCons (eU dNeg (eC (.int 4))) aNil))))) (eB dAdd (eVar 0) (eC (.int 4)))) aNil))) aNil)))
      (sSeq (sExpr (eMt mAppend (eVar 3) (aCons (eTup (aCons (eC (.str "told")) (aCons (eB dIx (eLst (aCons (eU dNeg (eC (.int 2))) (aCons (eU dNeg (eC (.int 1))) (aCons (eU dNeg (eC (.int 4))) (aCons (eU dNeg (eC (.int 3))) aNil))))) (eB dAdd (eVar 0) (eC (.int 4)))) aNil))) aNil)))
      (sExpr (eMt mAppend (eVar 3) (aCons (eTup (aCons (eC (.str "told")) (aCons (eB dIx (eC (.str "WNES")) (eB dAdd (eVar 0) (eC (.int 4)))) aNil))) aNil)))))
      (sSeq (sExpr (eMt mAppend (eVar 3) (aCons (eTup (aCons (eC (.str "refused")) (aCons (eC (.str "side")) (aCons (eU dNeg (eC (.int 1))) aNil)))) aNil)))
      (sSeq (sExpr (eMt mAppend (eVar 3) (aCons (eTup (aCons (eC (.str "refused")) (aCons (eC (.str "side")) (aCons (eU dNeg (eC (.int 1))) aNil)))) aNil)))
      (sIf (eAndT (eTest (eCall 1 rf__law_whole (aCons (eVar 0) aNil))) (eTest (eB dGe (eVar 0) (eC (.int 0)))))
      (sExpr (eMt mAppend (eVar 3) (aCons (eTup (aCons (eC (.str "told")) (aCons (eL dStr (aCons (eVar 0) aNil)) aNil))) aNil)))
      (sExpr (eMt mAppend (eVar 3) (aCons (eTup (aCons (eC (.str "refused")) (aCons (eC (.str "place")) (aCons (eU dNeg (eC (.int 1))) aNil)))) aNil)))))) (EA v b (some (.bl (sidD v))) (some (.lst S.length)) none) T2 = .next (EA v b (some (.bl (sidD v))) (some (.lst S.length)) none) T5 ∧ Fil S S.length [due v 0, due v 1, due v 2, due v 3, due v 4, due v 5] T5 := by
    cases c : sidD v with
    | true =>
      obtain ⟨i, rfl, i1, i2⟩ := sid_at c
      obtain ⟨m, hm⟩ : ∃ m : Nat, i + 4 = (m : Int) := ⟨(i + 4).toNat, by omega⟩
      have hm4 : m < 4 := by omega
      have ei : ∀ {a4 : Option D} (T : Sto), eB dAdd (eVar 0) (eC (.int 4)) (EA (.int i) b (some (.bl true)) (some (.lst S.length)) a4) T = .ok (.int (m : Nat)) T := fun {a4} T => by
        rw [add_ok (x := i) (y := 4) (var_ok rfl) c_ok, hm]
      have l1 := lit4 (a := -3) (b := -2) (c := -1) (d := -4) (ρ := EA (.int i) b (some (.bl true)) (some (.lst S.length)) none) (T := T2) (fun S => neg_ok (x := 3) c_ok) (fun S => neg_ok (x := 2) c_ok) (fun S => neg_ok (x := 1) c_ok) (fun S => neg_ok (x := 4) c_ok) hm4 ei
      obtain ⟨T3, s3, F3⟩ := F2.app (v := 3) (ρ := EA (.int i) b (some (.bl true)) (some (.lst S.length)) none) rfl (tup2_ok (c_ok (d := .str "told")) l1) (by simp)
      have l2 := lit4 (a := -2) (b := -1) (c := -4) (d := -3) (ρ := EA (.int i) b (some (.bl true)) (some (.lst S.length)) none) (T := T3) (fun S => neg_ok (x := 2) c_ok) (fun S => neg_ok (x := 1) c_ok) (fun S => neg_ok (x := 4) c_ok) (fun S => neg_ok (x := 3) c_ok) hm4 ei
      obtain ⟨T4, s4, F4⟩ := F3.app (v := 3) (ρ := EA (.int i) b (some (.bl true)) (some (.lst S.length)) none) rfl (tup2_ok (c_ok (d := .str "told")) l2) (by simp)
      obtain ⟨T5, s5, F5⟩ := F4.app (v := 3) (H := []) (ρ := EA (.int i) b (some (.bl true)) (some (.lst S.length)) none) rfl (by rw [List.append_nil]; exact tup2_ok (c_ok (d := .str "told")) (b_ok (c_ok (d := .str "WNES")) (ei _) (wnes hm4))) (by simp)
      refine ⟨T5, (if_t (test_ok (var_ok (i := 2) (d := .bl true) rfl))).trans ((seq_next s3).trans ((seq_next s4).trans s5)), ?_⟩
      have ed : ∀ x y z : D, x = due (.int i) 3 → y = due (.int i) 4 → z = due (.int i) 5 → [due (.int i) 0, due (.int i) 1, due (.int i) 2] ++ [x] ++ [y] ++ [z] = [due (.int i) 0, due (.int i) 1, due (.int i) 2, due (.int i) 3, due (.int i) 4, due (.int i) 5] := fun x y z e1 e2 e3 => by
        subst e1 e2 e3
        rfl
      rw [ed _ _ _ ?_ ?_ ?_] at F5
      · exact F5
      · show told (.int _) = (if sidD (.int i) = true then told (.int (sAft i)) else refd "side")
        rw [c, if_pos rfl]
        congr 2
        unfold sAft
        have : i = -4 ∨ i = -3 ∨ i = -2 ∨ i = -1 := by omega
        rcases this with rfl | rfl | rfl | rfl <;> (have : m = _ := Int.ofNat.inj hm.symm; subst this; rfl)
      · show told (.int _) = (if sidD (.int i) = true then told (.int (sOpp i)) else refd "side")
        rw [c, if_pos rfl]
        congr 2
        unfold sOpp
        have : i = -4 ∨ i = -3 ∨ i = -2 ∨ i = -1 := by omega
        rcases this with rfl | rfl | rfl | rfl <;> (have : m = _ := Int.ofNat.inj hm.symm; subst this; rfl)
      · show told (.str _) = (if plD (.int i) = true then told (.str (letS i)) else refd "place")
        rw [show plD (.int i) = true from decide_eq_true i1, if_pos rfl]
        unfold letS
        rw [if_pos (by omega : i < 0), hm, Int.toNat_natCast]
    | false =>
      obtain ⟨T3, s3, F3⟩ := F2.app (v := 3) (H := []) (ρ := EA v b (some (.bl false)) (some (.lst S.length)) none) rfl (by rw [List.append_nil]; exact tup3_ok (c_ok (d := .str "refused")) (c_ok (d := .str "side")) (neg_ok (x := 1) c_ok)) (by simp)
      obtain ⟨T4, s4, F4⟩ := F3.app (v := 3) (H := []) (ρ := EA v b (some (.bl false)) (some (.lst S.length)) none) rfl (by rw [List.append_nil]; exact tup3_ok (c_ok (d := .str "refused")) (c_ok (d := .str "side")) (neg_ok (x := 1) c_ok)) (by simp)
      have d3 : due v 3 = refd "side" := by
        show (if sidD v = true then _ else _) = _
        rw [c]
        rfl
      have d4 : due v 4 = refd "side" := by
        show (if sidD v = true then _ else _) = _
        rw [c]
        rfl
      have w2 := test_ok (w1 (a2 := some (.bl false)) (a3 := some (.lst S.length)) (a4 := none) (T := T4))
      by_cases ci : isI v = true ∧ 0 ≤ intD v
      · obtain ⟨c1, c2⟩ := ci
        rw [c1] at w2
        obtain ⟨i, rfl⟩ := int_is c1
        have c2 : 0 ≤ i := c2
        have t := and_2 w2 (test_ok (ge_ok (var_ok (i := 0) (d := .int i) rfl) (c_ok (d := .int 0))))
        rw [decide_eq_true c2] at t
        obtain ⟨T5, s5, F5⟩ := F4.app (v := 3) (H := []) (ρ := EA (.int i) b (some (.bl false)) (some (.lst S.length)) none) rfl (by
          rw [List.append_nil]
          exact tup2_ok (c_ok (d := .str "told")) (el_ok (g := dStr) (z := .str (toString i)) (var_ok (i := 0) (d := .int i) rfl) (by
            unfold dStr
            simp only [h.sm i rfl, if_true]))) (by simp)
        refine ⟨T5, (if_f (test_ok (var_ok (i := 2) (d := .bl false) rfl))).trans ((seq_next s3).trans ((seq_next s4).trans ((if_t t).trans s5))), ?_⟩
        have d5 : due (.int i) 5 = told (.str (toString i)) := by
          show (if plD (.int i) = true then told (.str (letS i)) else refd "place") = _
          rw [show plD (.int i) = true from decide_eq_true (by omega), if_pos rfl]
          unfold letS
          rw [if_neg (by omega)]
        rw [d3, d4, d5]
        exact F5
      · have t : eAndT (eTest (eCall 1 rf__law_whole (aCons (eVar 0) aNil))) (eTest (eB dGe (eVar 0) (eC (.int 0)))) (EA v b (some (.bl false)) (some (.lst S.length)) none) T4 = .ok false T4 := by
          by_cases c1 : isI v = true
          · rw [c1] at w2
            obtain ⟨i, rfl⟩ := int_is c1
            have t := and_2 w2 (test_ok (ge_ok (var_ok (i := 0) (d := .int i) rfl) (c_ok (d := .int 0))))
            rw [decide_eq_false (p := 0 ≤ i) (fun z => ci ⟨rfl, z⟩)] at t
            exact t
          · have c1 : isI v = false := by simpa using c1
            rw [c1] at w2
            exact and_f w2
        obtain ⟨T5, s5, F5⟩ := F4.app (v := 3) (H := []) (ρ := EA v b (some (.bl false)) (some (.lst S.length)) none) rfl (by rw [List.append_nil]; exact tup3_ok (c_ok (d := .str "refused")) (c_ok (d := .str "place")) (neg_ok (x := 1) c_ok)) (by simp)
        refine ⟨T5, (if_f (test_ok (var_ok (i := 2) (d := .bl false) rfl))).trans ((seq_next s3).trans ((seq_next s4).trans ((if_f t).trans s5))), ?_⟩
        have d5 : due v 5 = refd "place" := by
          show (if plD v = true then _ else _) = _
          have : plD v = false := by
            by_cases hi : isI v = true
            · obtain ⟨i, rfl⟩ := int_is hi
              have c : (decide (-4 ≤ i) && decide (i ≤ -1)) = false := c
              show decide (-4 ≤ i) = false
              rw [decide_eq_false_iff_not]
              intro z
              rw [decide_eq_true z, Bool.true_and, decide_eq_false_iff_not] at c
              exact ci ⟨rfl, by show 0 ≤ i; omega⟩
            · cases v <;> first
                | rfl
                | exact absurd rfl hi
          rw [this]
          rfl
        rw [d3, d4, d5]
        exact F5
  rw [seq_next s5]
  obtain ⟨_, ⟨G, rfl⟩, hl⟩ := F5
  refine ⟨G, ?_⟩
  obtain ⟨ρ', S', e1, ⟨x, e2⟩, e3⟩ := for_all (st := fun _ => True) (b := bName 4) (body := (sIf (eNotT (eTest (eCall 2 rf__law_like (aCons (eCall 3 rf__law_single (aCons (eVar 4) (aCons (eVar 0) (aCons (eVar 1) aNil)))) (aCons (eB dIx (eVar 3) (eVar 4)) aNil)))))
 (sRet (eC (.bl false)))
 sSkip)) (fun i ρ S' => (∃ x, ρ = EA v b (some (.bl (sidD v))) (some (.lst S.length)) x) ∧ S' = S ++ G) (fun _ _ _ _ => trivial) (rngL 0 6) (EA v b (some (.bl (sidD v))) (some (.lst S.length)) none) (S ++ G) (fun i x ρ S' hx hI => by
      obtain ⟨⟨y, rfl⟩, rfl⟩ := hI
      obtain ⟨hi, rfl⟩ := rng_at hx
      refine ⟨EA v b (some (.bl (sidD v))) (some (.lst S.length)) (some (.int (i : Nat))), _, _, rfl, if_s (not_b (test_ok ?_) (k := true)), ⟨_, rfl⟩, rfl⟩
      have hd : [due v 0, due v 1, due v 2, due v 3, due v 4, due v 5][i]? = some (due v i) := by
        match i, hi with
        | 0, _ => rfl
        | 1, _ => rfl
        | 2, _ => rfl
        | 3, _ => rfl
        | 4, _ => rfl
        | 5, _ => rfl
      exact (call2 ((call3 (x := .int (i : Nat)) (y := v) (z := .bl b) (var_ok (i := 4) rfl) (var_ok (i := 0) rfl) (var_ok (i := 1) rfl)).trans (one_ok h b hi _)) (b_ok (var_ok (i := 3) (d := .lst S.length) rfl) (var_ok (i := 4) rfl) (ix_lst hl hd))).trans (like6 (like_due v i) _)) ⟨⟨_, rfl⟩, rfl⟩
  subst e2 e3
  exact congrArg flowRes ((seq_next (for_rng (n := 6) (args1' (c_ok (d := .int ((6 : Nat) : Int)))) (by decide) e1)).trans (ret_ret c_ok))
end LawM
end
section
set_option Elab.async false
set_option linter.all false
set_option maxRecDepth 100000
set_option maxHeartbeats 1000000
/-! K11: rows of quotients. -/
namespace LawM
open PySem PySem.Spec PyProof.Rows L2 MP
def atL (β : Int) (d : D) : Bool := quoD d && decide (β ≤ topD d)
def allD (β : Int) (n t : D) : Bool := match n, t with
  | .int i, .tup xs => decide ((xs.length : Int) = i) && xs.all (atL β)
  | _, _ => false
theorem src_tup {a : Ev} {ρ : MP.Env} {S S1 : Sto} {xs : List D} (h : a ρ S = .ok (.tup xs) S1) : iSeq a ρ S = .ok ⟨xs, fun _ => True⟩ S1 := by
  unfold iSeq srcOf
  rw [h]
  rfl
/-- a tuple of so many -/
theorem row_look {n t : D} (i : Int) (hn : n = .int i) (ht : pln t = true) {ρ : MP.Env} {S : Sto} {u v : Nat} (h0 : ρ[u]? = some (some n)) (h1 : ρ[v]? = some (some t)) : (∃ xs, t = .tup xs ∧ (xs.length : Int) = i ∧ eOrT (eNotT (eTest (eU (dIsi "tuple") (eVar v)))) (eTest (eB dNe (eL dLen (aCons (eVar v) aNil)) (eVar u))) ρ S = .ok false S) ∨
    ((∀ β, allD β n t = false) ∧ eOrT (eNotT (eTest (eU (dIsi "tuple") (eVar v)))) (eTest (eB dNe (eL dLen (aCons (eVar v) aNil)) (eVar u))) ρ S = .ok true S) := by
  subst hn
  have t1 := not_b (test_ok (u_ok (var_ok (S := S) h1) (isi_tup ht)))
  by_cases c : ∃ xs, t = .tup xs
  · obtain ⟨xs, rfl⟩ := c
    rw [show (!(tyName (.tup xs) == "tuple")) = false from rfl] at t1
    have t2 := test_ok (ne_ok (el_ok (g := dLen) (var_ok (S := S) h1) rfl) (var_ok h0))
    by_cases c2 : (xs.length : Int) = i
    · rw [decide_eq_true c2] at t2
      exact .inl ⟨xs, rfl, c2, or_2 t1 t2⟩
    · rw [decide_eq_false c2] at t2
      refine .inr ⟨fun β => ?_, or_2 t1 t2⟩
      show (decide ((xs.length : Int) = i) && xs.all (atL β)) = false
      rw [decide_eq_false c2]
      rfl
  · have e : (tyName t == "tuple") = false := by
      cases q : (tyName t == "tuple") with
      | true => exact absurd ((tup_of ht).mp q) c
      | false => rfl
    rw [e] at t1
    refine .inr ⟨fun β => ?_, or_t t1⟩
    cases t <;> first
      | rfl
      | exact absurd ⟨_, rfl⟩ c
/-- rows that may be asked -/
def RV (t : D) : Prop := pln t = true ∧ ∀ xs, t = .tup xs → xs.length ≤ 1000 ∧ ∀ x ∈ xs, QV x ∧ QB x
theorem cnt_at {n : D} (h : cntD n = true) : ∃ i : Int, n = .int i ∧ 0 ≤ i := by
  unfold cntD at h
  split at h
  · exact ⟨_, rfl, by simpa using h⟩
  · cases h
theorem all_lst {S : Sto} {l : Nat} {bs : List Bool} (h : S[l]? = some (bs.map D.bl)) : dAll [.lst l] S = some (.bl (bs.all id), S) := by
  have key : ∀ bs : List Bool, boolsOf (bs.map D.bl) = some bs := fun bs => by
    induction bs with
    | nil => rfl
    | cons b bs ih =>
      rw [List.map_cons]
      unfold boolsOf
      rw [ih]
      rfl
  unfold dAll
  simp only [h, Option.bind_some, key, Option.map_some]
theorem lc_all {e : Ev} {f : D → Bool} {n t : D} {xs : List D} {S : Sto} (hl : xs.length ≤ 1000) (he : ∀ x ∈ xs, e [some n, some t, some x] S = .ok (.bl (f x)) S) (ht : t = .tup xs) : eL dAll (aCons (eLc (iSeq (eVar 1)) (bName 2) tTrue e [2]) aNil) [some n, some t, none] S = .ok (.bl (xs.all f)) (S ++ [xs.map fun x => .bl (f x)]) := by
  subst ht
  have k := lc_map (st := fun _ => True) (b := bName 2) (t := tTrue) (e := e) (ρ := wipeE [some n, some (.tup xs), none] [2]) (fun x => .bl (f x)) (S := S) trivial xs [] (by simp; omega) (fun x hx => ⟨[some n, some (.tup xs), some x], rfl, rfl, he x hx⟩)
  rw [List.nil_append] at k
  have e1 : eLc (iSeq (eVar 1)) (bName 2) tTrue e [2] [some n, some (.tup xs), none] S = .ok (.lst S.length) (S ++ [xs.map fun x => .bl (f x)]) := by
    unfold eLc
    rw [src_tup (var_ok (i := 1) rfl), Res.bind_ok]
    simp only [k, Res.bind_ok]
  refine el_ok e1 ?_
  have h : (S ++ [xs.map fun x => D.bl (f x)])[S.length]? = some ((xs.map f).map D.bl) := by
    rw [at_end, List.map_map]
    rfl
  rw [all_lst h, List.all_map]
  rfl
theorem shapes_ok {n t : D} (hn : pln n = true) (ht : RV t) (S : Sto) : ∃ G, rf_is_shapes [n, t] S = if cntD n = true then .ok (.bl (allD 1 n t)) (S ++ G) else refus "many" S := by
  unfold rf_is_shapes runDef ev_is_shapes
  rw [show begins 3 [n, t] = [some n, some t, none] from rfl]
  have e := (call1 (F := rf__need_number) (var_ok (i := 0) (d := n) (ρ := [some n, some t, none]) (S := S) rfl)).trans (need_ok hn S)
  cases c : cntD n with
  | true =>
    rw [c, if_pos rfl] at e
    rw [seq_next (expr_ok e)]
    obtain ⟨i, rfl, h0⟩ := cnt_at c
    rcases row_look i rfl ht.1 (u := 0) (v := 1) (ρ := [some (.int i), some t, none]) (S := S) rfl rfl with ⟨xs, rfl, hl, q⟩ | ⟨hf, q⟩
    · rw [if_else q]
      obtain ⟨hx1, hx2⟩ := ht.2 xs rfl
      have k := lc_all (e := eCall 1 rf_is_positive (aCons (eVar 2) aNil)) (f := posD) (n := .int i) (t := .tup xs) (S := S) hx1 (fun x hx => (call1 (var_ok (i := 2) (d := x) rfl)).trans (ispos_ok (hx2 x hx).1 S)) rfl
      refine ⟨[xs.map fun x => .bl (posD x)], ?_⟩
      rw [ret_ret k]
      show Res.ok (D.bl (xs.all posD)) _ = Res.ok (D.bl (decide ((xs.length : Int) = i) && xs.all (atL 1))) _
      rw [decide_eq_true hl, Bool.true_and]
      congr 3
    · refine ⟨[], ?_⟩
      rw [seq_ret ((if_t q).trans (ret_ret c_ok)), hf 1, List.append_nil]
      rfl
  | false =>
    rw [c, if_neg (by decide)] at e
    refine ⟨[], ?_⟩
    rw [seq_exc (expr_exc e)]
    rfl
theorem table_ok {n t : D} (hn : pln n = true) (ht : RV t) (S : Sto) : ∃ G, rf_is_table [n, t] S = if cntD n = true then .ok (.bl (allD 0 n t)) (S ++ G) else refus "many" S := by
  unfold rf_is_table runDef ev_is_table
  rw [show begins 3 [n, t] = [some n, some t, none] from rfl]
  have e := (call1 (F := rf__need_number) (var_ok (i := 0) (d := n) (ρ := [some n, some t, none]) (S := S) rfl)).trans (need_ok hn S)
  cases c : cntD n with
  | true =>
    rw [c, if_pos rfl] at e
    rw [seq_next (expr_ok e)]
    obtain ⟨i, rfl, h0⟩ := cnt_at c
    rcases row_look i rfl ht.1 (u := 0) (v := 1) (ρ := [some (.int i), some t, none]) (S := S) rfl rfl with ⟨xs, rfl, hl, q⟩ | ⟨hf, q⟩
    · rw [if_else q]
      obtain ⟨hx1, hx2⟩ := ht.2 xs rfl
      have k := lc_all (e := eAnd (eCall 1 rf_is_quotient (aCons (eVar 2) aNil)) (eB dGe (eB dIx (eVar 2) (eC (.int 0))) (eC (.int 0)))) (f := atL 0) (n := .int i) (t := .tup xs) (S := S) hx1 (fun x hx => by
        have e1 := (call1 (F := rf_is_quotient) (var_ok (i := 2) (d := x) (ρ := [some (.int i), some (.tup xs), some x]) (S := S) rfl)).trans (isq_ok (hx2 x hx).1 S)
        unfold atL
        cases c : quoD x with
        | true =>
          obtain ⟨q, rfl, _⟩ := quo_at c
          rw [c] at e1
          rw [eAnd_ok e1 (ge_ok (x := q.1) (y := 0) (top_at (v := 2) rfl) (c_ok (d := .int 0)))]
          rfl
        | false =>
          rw [c] at e1
          rw [eAnd_f e1]
          rfl) rfl
      refine ⟨[xs.map fun x => .bl (atL 0 x)], ?_⟩
      rw [ret_ret k]
      show Res.ok (D.bl (xs.all (atL 0))) _ = Res.ok (D.bl (decide ((xs.length : Int) = i) && xs.all (atL 0))) _
      rw [decide_eq_true hl, Bool.true_and]
    · refine ⟨[], ?_⟩
      rw [seq_ret ((if_t q).trans (ret_ret c_ok)), hf 0, List.append_nil]
      rfl
  | false =>
    rw [c, if_neg (by decide)] at e
    refine ⟨[], ?_⟩
    rw [seq_exc (expr_exc e)]
    rfl
end LawM
end
section
set_option Elab.async false
set_option linter.all false
set_option maxRecDepth 100000
set_option maxHeartbeats 1000000
/-! K12: rows told by the law. -/
namespace LawM
open PySem PySem.Spec PyProof.Rows L2 MP
@[reducible] def EAl (n t : D) (β : Int) (a3 : Option D) : MP.Env := [some n, some t, some (.int β), a3]
noncomputable abbrev bodyAl : Es := (sIf (eOrT (eNotT (eTest (eCall 1 rf__law_quotient (aCons (eVar 3) aNil)))) (eTest (eB dLt (eB dIx (eVar 3) (eC (.int 0))) (eVar 2))))
 (sRet (eC (.bl false)))
 sSkip)
theorem al_one {n t x : D} {β : Int} (hx : QV x ∧ QB x) (S : Sto) : bodyAl (EAl n t β (some x)) S = if atL β x = true then .next (EAl n t β (some x)) S else .ret (.bl false) S := by
  have t1 := not_b (test_ok ((call1 (F := rf__law_quotient) (var_ok (i := 3) (d := x) (ρ := EAl n t β (some x)) (S := S) rfl)).trans (lawquot_ok hx.1 hx.2 S)))
  unfold bodyAl atL
  cases c : quoD x with
  | true =>
    obtain ⟨q, rfl, _⟩ := quo_at c
    rw [c] at t1
    have t2 := or_2 t1 (test_ok (lt_ok (x := q.1) (y := β) (top_at (v := 3) rfl) (var_ok (i := 2) rfl)))
    show _ = if (true && decide (β ≤ q.1)) = true then _ else _
    rw [Bool.true_and]
    by_cases h : β ≤ q.1
    · rw [decide_eq_false (by omega : ¬ q.1 < β)] at t2
      rw [if_s t2, decide_eq_true h, if_pos rfl]
    · rw [decide_eq_true (by omega : q.1 < β)] at t2
      rw [(if_t t2).trans (ret_ret c_ok), decide_eq_false h, if_neg (by decide)]
  | false =>
    rw [c] at t1
    rw [(if_t (or_t t1)).trans (ret_ret c_ok)]
    rfl
theorem al_loop {n t : D} {β : Int} : ∀ (xs : List D) (a3 : Option D) (S : Sto), (∀ x ∈ xs, QV x ∧ QB x) → ∃ b3, forLoop (fun _ => True) (bName 3) bodyAl xs (EAl n t β a3) S = if xs.all (atL β) = true then .next (EAl n t β b3) S else .ret (.bl false) S
  | [], a3, S, _ => ⟨a3, for_nil trivial⟩
  | x :: xs, a3, S, h => by
    have e := al_one (n := n) (t := t) (β := β) (h x List.mem_cons_self) S
    obtain ⟨b3, k⟩ := al_loop (n := n) (t := t) (β := β) xs (some x) S fun y hy => h y (List.mem_cons_of_mem _ hy)
    cases c : atL β x with
    | true =>
      rw [c, if_pos rfl] at e
      refine ⟨b3, ?_⟩
      rw [for_cons (st := fun _ => True) (ρ1 := EAl n t β (some x)) trivial rfl e, k, List.all_cons, c, Bool.true_and]
    | false =>
      rw [c, if_neg (by decide)] at e
      refine ⟨none, ?_⟩
      rw [for_ret (st := fun _ => True) (ρ1 := EAl n t β (some x)) trivial rfl e, List.all_cons, c, Bool.false_and, if_neg (by decide)]
theorem all_of_ok {t : D} (ht : RV t) {i β : Int} (S : Sto) : rf__law_all_of [.int i, t, .int β] S = .ok (.bl (allD β (.int i) t)) S := by
  unfold rf__law_all_of runDef ev__law_all_of
  rw [show begins 4 [.int i, t, .int β] = EAl (.int i) t β none from rfl]
  rcases row_look i rfl ht.1 (u := 0) (v := 1) (ρ := EAl (.int i) t β none) (S := S) rfl rfl with ⟨xs, rfl, hl, q⟩ | ⟨hf, q⟩
  · rw [if_else q]
    obtain ⟨hx1, hx2⟩ := ht.2 xs rfl
    obtain ⟨b3, k⟩ := al_loop (n := .int i) (t := .tup xs) (β := β) xs none S hx2
    have hs : sFor (iSeq (eVar 1)) (bName 3) bodyAl (EAl (.int i) (.tup xs) β none) S = forLoop (fun _ => True) (bName 3) bodyAl xs (EAl (.int i) (.tup xs) β none) S := by
      unfold sFor
      rw [src_tup (var_ok (i := 1) rfl), ofRes_ok]
    show _ = Res.ok (D.bl (decide ((xs.length : Int) = i) && xs.all (atL β))) S
    rw [decide_eq_true hl, Bool.true_and]
    cases c : xs.all (atL β) with
    | true =>
      rw [c, if_pos rfl] at k
      exact congrArg flowRes ((seq_next (hs.trans k)).trans (ret_ret c_ok))
    | false =>
      rw [c, if_neg (by decide)] at k
      exact congrArg flowRes (seq_ret (hs.trans k))
  · rw [seq_ret ((if_t q).trans (ret_ret c_ok)), hf β]
    rfl
end LawM
end
section
set_option Elab.async false
set_option linter.all false
set_option maxRecDepth 100000
set_option maxHeartbeats 1000000
/-! K13: reckoned. -/
namespace LawM
open PySem PySem.Spec PyProof.Rows L2 MP
theorem pz_t {k : Nat} {z : Int} {ρ : MP.Env} {S : Sto} : eTest (eB dEq (eVar 0) (eC (.int z))) (some (.int (k : Nat)) :: ρ) S = .ok (decide ((k : Int) = z)) S := test_ok (eq_ok (var_ok (i := 0) rfl) c_ok)
theorem pz_n {k : Nat} {z : Int} {a r : Es} {ρ : MP.Env} {S : Sto} (h : (k : Int) ≠ z) : sSeq (sIf (eTest (eB dEq (eVar 0) (eC (.int z)))) a sSkip) r (some (.int (k : Nat)) :: ρ) S = r (some (.int (k : Nat)) :: ρ) S := by
  have t := pz_t (k := k) (z := z) (ρ := ρ) (S := S)
  rw [decide_eq_false h] at t
  exact if_else t
theorem pz_y {k : Nat} {z : Int} {a r : Es} {ρ ρ' : MP.Env} {S : Sto} (h : (k : Int) = z) (e : a (some (.int (k : Nat)) :: ρ) S = .next ρ' S) : sSeq (sIf (eTest (eB dEq (eVar 0) (eC (.int z)))) a sSkip) r (some (.int (k : Nat)) :: ρ) S = r ρ' S := by
  have t := pz_t (k := k) (z := z) (ρ := ρ) (S := S)
  rw [decide_eq_true h] at t
  exact seq_next ((if_t t).trans e)
def tpK (k : Nat) (q r : Int × Int) : Int := match k with
  | 0 => q.1 * r.2 + r.1 * q.2
  | 1 => q.1 * r.2 - r.1 * q.2
  | 2 => q.1 * r.1
  | _ => q.1 * r.2
def btK (k : Nat) (q r : Int × Int) : Int := match k with
  | 3 => q.2 * r.1
  | _ => q.2 * r.2
@[reducible] def ERk (k : Nat) (q r l : Int × Int) (a4 a5 : Option D) : MP.Env := [some (.int (k : Nat)), some (dq q), some (dq r), some (told (dq l)), a4, a5]
theorem rk_vals {k : Nat} {q r l : Int × Int} (hq : Qb q) (hr : Qb r) {a4 a5 : Option D} {S : Sto} :
    eB dMul (eB dIx (eVar 1) (eC (.int 0))) (eB dIx (eVar 2) (eC (.int 1))) (ERk k q r l a4 a5) S = .ok (.int (q.1 * r.2)) S ∧ eB dMul (eB dIx (eVar 2) (eC (.int 0))) (eB dIx (eVar 1) (eC (.int 1))) (ERk k q r l a4 a5) S = .ok (.int (r.1 * q.2)) S ∧
    eB dMul (eB dIx (eVar 1) (eC (.int 1))) (eB dIx (eVar 2) (eC (.int 1))) (ERk k q r l a4 a5) S = .ok (.int (q.2 * r.2)) S ∧ eB dMul (eB dIx (eVar 1) (eC (.int 0))) (eB dIx (eVar 2) (eC (.int 0))) (ERk k q r l a4 a5) S = .ok (.int (q.1 * r.1)) S ∧
    eB dMul (eB dIx (eVar 1) (eC (.int 1))) (eB dIx (eVar 2) (eC (.int 0))) (ERk k q r l a4 a5) S = .ok (.int (q.2 * r.1)) S :=
  ⟨mul_ok (mulq hq.b1 hr.b2) (top_at (v := 1) rfl) (bot_at (v := 2) rfl), mul_ok (mulq hr.b1 hq.b2) (top_at (v := 2) rfl) (bot_at (v := 1) rfl), mul_ok (mulq hq.b2 hr.b2) (bot_at (v := 1) rfl) (bot_at (v := 2) rfl), mul_ok (mulq hq.b1 hr.b1) (top_at (v := 1) rfl) (top_at (v := 2) rfl), mul_ok (mulq hq.b2 hr.b1) (bot_at (v := 1) rfl) (top_at (v := 2) rfl)⟩
theorem reck_ok {k : Nat} (hk : k < 4) {q r l : Int × Int} (hq : Qb q) (hr : Qb r) (hl : Qu l) (b1 : Bt l.1 3000) (b2 : Bt l.2 3000) (he : l.1 * btK k q r = l.2 * tpK k q r) (S : Sto) : rf__law_reckoned [.int (k : Nat), dq q, dq r, told (dq l)] S = .ok (.bl true) S := by
  unfold rf__law_reckoned runDef ev__law_reckoned
  rw [show begins 6 [.int (k : Nat), dq q, dq r, told (dq l)] = ERk k q r l none none from rfl]
  rw [pz_n (by omega)]
  have i0 : ∀ {a4 a5 : Option D} {T : Sto}, eB dIx (eVar 3) (eC (.int 0)) (ERk k q r l a4 a5) T = .ok (.str "told") T := fun {a4 a5 T} => ix0 (v := 3) rfl
  have i1 : ∀ {a4 a5 : Option D} {T : Sto}, eB dIx (eVar 3) (eC (.int 1)) (ERk k q r l a4 a5) T = .ok (dq l) T := fun {a4 a5 T} => ix1 (v := 3) rfl
  have t1 := not_b (k := true) (isi_f (T := "tuple") (v := 3) (ρ := ERk k q r l none none) (S := S) rfl ((isi_tup (d := told (dq l)) rfl).trans rfl))
  have t2 : eTest (eB dNe (eL dLen (aCons (eVar 3) aNil)) (eC (.int 2))) (ERk k q r l none none) S = .ok false S := test_ok (ne_ok (el_ok (g := dLen) (z := .int 2) (var_ok (i := 3) (d := told (dq l)) rfl) rfl) (c_ok (d := .int 2)))
  have t3 : eTest (eB dNe (eB dIx (eVar 3) (eC (.int 0))) (eC (.str "told"))) (ERk k q r l none none) S = .ok false S := test_ok (b_ok i0 c_ok ((dNe_str (by decide +kernel) (by decide +kernel)).trans (by rw [show (!(("told" : Str) == "told")) = false from by decide +kernel])))
  have hqb : QB (dq l) := fun a b e => by
    unfold dq at e
    simp only [D.tup.injEq, List.cons.injEq, D.int.injEq, and_true] at e
    rw [← e.2]
    exact Nat.lt_of_lt_of_le b2 (Nat.pow_le_pow_right (by decide) (by decide))
  have t4 := not_b (test_ok ((call1 (F := rf__law_quotient) (i1 (a4 := none) (a5 := none) (T := S))).trans (lawquot_ok qv_dq hqb S)))
  rw [quo_dq hl] at t4
  rw [if_else (or_2 t1 (or_2 t2 (or_2 t3 t4)))]
  obtain ⟨m1, m2, m3, m4, m5⟩ := rk_vals (k := k) (l := l) (a4 := none) (a5 := none) (S := S) hq hr
  rw [seq_next (ret_asg (add_ok m1 m2))]
  simp only [List.set_cons_zero, List.set_cons_succ]
  obtain ⟨m1, m2, m3, m4, m5⟩ := rk_vals (k := k) (l := l) (a4 := some (.int (q.1 * r.2 + r.1 * q.2))) (a5 := none) (S := S) hq hr
  rw [seq_next (ret_asg m3)]
  simp only [List.set_cons_zero, List.set_cons_succ]
  clear m1 m2 m3 m4 m5
  have fin : ∀ (t b : Int), Bt t 3000 → Bt b 3000 → l.1 * b = l.2 * t → flowRes (sRet (eB dEq (eB dMul (eB dIx (eB dIx (eVar 3) (eC (.int 1))) (eC (.int 0))) (eVar 5)) (eB dMul (eB dIx (eB dIx (eVar 3) (eC (.int 1))) (eC (.int 1))) (eVar 4))) (ERk k q r l (some (.int t)) (some (.int b))) S) = .ok (.bl true) S := fun t b bt bb e => by
    have j0 := b_ok (g := dIx) (i1 (a4 := some (.int t)) (a5 := some (.int b)) (T := S)) (c_ok (d := .int ((0 : Nat) : Int))) (ix_tup (xs := [.int l.1, .int l.2]) (k := 0) rfl)
    have j1 := b_ok (g := dIx) (i1 (a4 := some (.int t)) (a5 := some (.int b)) (T := S)) (c_ok (d := .int ((1 : Nat) : Int))) (ix_tup (xs := [.int l.1, .int l.2]) (k := 1) rfl)
    have k1 := eq_ok (mul_ok (mulA b1 bb (by decide)) j0 (var_ok (i := 5) (d := .int b) rfl)) (mul_ok (mulA b2 bt (by decide)) j1 (var_ok (i := 4) (d := .int t) rfl))
    rw [decide_eq_true e] at k1
    exact congrArg flowRes (ret_ret k1)
  have bm : ∀ {a b : Int}, Bt a 1200 → Bt b 1200 → Bt (a * b) 2400 := fun h k => Bt.mul h k
  have bn : ∀ {a : Int}, Bt a 2400 → Bt a 3000 := fun h => h.mono (by omega)
  match k, hk, he with
  | 0, _, he =>
    rw [pz_n (by decide), pz_n (by decide), pz_n (by decide)]
    exact fin _ _ ((Bt.add (bm hq.b1 hr.b2) (bm hr.b1 hq.b2)).mono (by omega)) (bn (bm hq.b2 hr.b2)) he
  | 1, _, he =>
    obtain ⟨m1, m2, m3, m4, m5⟩ := rk_vals (k := 1) (l := l) (a4 := some (.int (q.1 * r.2 + r.1 * q.2))) (a5 := some (.int (q.2 * r.2))) (S := S) hq hr
    rw [pz_y (by decide) (ret_asg (sub_ok m1 m2))]
    simp only [List.set_cons_zero, List.set_cons_succ]
    rw [pz_n (by decide), pz_n (by decide)]
    refine fin _ _ ?_ (bn (bm hq.b2 hr.b2)) he
    rw [Int.sub_eq_add_neg]
    exact (Bt.add (bm hq.b1 hr.b2) (Bt.neg (bm hr.b1 hq.b2))).mono (by omega)
  | 2, _, he =>
    obtain ⟨m1, m2, m3, m4, m5⟩ := rk_vals (k := 2) (l := l) (a4 := some (.int (q.1 * r.2 + r.1 * q.2))) (a5 := some (.int (q.2 * r.2))) (S := S) hq hr
    rw [pz_n (by decide), pz_y (by decide) (ret_asg m4)]
    simp only [List.set_cons_zero, List.set_cons_succ]
    rw [pz_n (by decide)]
    exact fin _ _ (bn (bm hq.b1 hr.b1)) (bn (bm hq.b2 hr.b2)) he
  | 3, _, he =>
    obtain ⟨m1, m2, m3, m4, m5⟩ := rk_vals (k := 3) (l := l) (a4 := some (.int (q.1 * r.2 + r.1 * q.2))) (a5 := some (.int (q.2 * r.2))) (S := S) hq hr
    obtain ⟨n1, n2, n3, n4, n5⟩ := rk_vals (k := 3) (l := l) (a4 := some (.int (q.1 * r.2))) (a5 := some (.int (q.2 * r.2))) (S := S) hq hr
    rw [pz_n (by decide), pz_n (by decide), pz_y (by decide) ((seq_next (ret_asg m1)).trans (ret_asg n5))]
    simp only [List.set_cons_zero, List.set_cons_succ]
    exact fin _ _ (bn (bm hq.b1 hr.b2)) (bn (bm hq.b2 hr.b1)) he
  | k + 4, hk, _ => omega
end LawM
end
section
set_option Elab.async false
set_option linter.all false
set_option maxRecDepth 100000
set_option maxHeartbeats 1000000
/-! K14: two values, the five deeds. -/
namespace LawM
open PySem PySem.Spec PyProof.Rows L2 MP
structure PV (v : D) : Prop where
  qv : QV v
  qb : QB v
  bt : ∀ q : Int × Int, v = dq q → Bt q.1 1200 ∧ Bt q.2 1200
theorem PV.at_ {v : D} (h : PV v) (c : quoD v = true) : ∃ q, v = dq q ∧ Qb q := by
  obtain ⟨q, rfl, hq⟩ := quo_at c
  obtain ⟨b1, b2⟩ := h.bt q rfl
  exact ⟨q, rfl, hq, b1, b2⟩
theorem bt_le {a x : Int} {n : Nat} (h : Bt a n) (e : x.natAbs ≤ a.natAbs) : Bt x n := Nat.lt_of_le_of_lt e h
theorem low_bt {a b : Int} (hb : 0 < b) {n : Nat} (h1 : Bt a n) (h2 : Bt b n) : Bt (low a b).1 n ∧ Bt (low a b).2 n ∧ Qu (low a b) ∧ (low a b).1 * b = (low a b).2 * a := by
  obtain ⟨g, g0, _, _, e1, e2, hq⟩ := low_spec (a := a) hb
  generalize low a b = l at *
  have m : ∀ {c x : Int}, c = g * x → x.natAbs ≤ c.natAbs := fun {c x} e => by
    rw [e, Int.natAbs_mul]
    exact Nat.le_mul_of_pos_left _ (by omega)
  refine ⟨bt_le h1 (m e1), bt_le h2 (m e2), hq, ?_⟩
  have e : l.1 * (g * l.2) = l.2 * (g * l.1) := by rw [Int.mul_left_comm, Int.mul_left_comm l.2, Int.mul_comm l.1]
  rw [← e1, ← e2] at e
  exact e
/-- what the first four deeds tell -/
theorem four_ok {k : Nat} (hk : k < 4) {q r : Int × Int} (hq : Qb q) (hr : Qb r) (h3 : k = 3 → r.1 ≠ 0) (S : Sto) : ∃ l, deed8 k [dq q, dq r] S = .ok (dq l) S ∧ Qu l ∧ Bt l.1 3000 ∧ Bt l.2 3000 ∧ l.1 * btK k q r = l.2 * tpK k q r := by
  have bm : ∀ {a b : Int}, Bt a 1200 → Bt b 1200 → Bt (a * b) 3000 := fun h k => (Bt.mul h k).mono (by omega)
  have ba : ∀ {a b : Int}, Bt a 2400 → Bt b 2400 → Bt (a + b) 3000 := fun h k => (Bt.add h k).mono (by omega)
  match k, hk, h3 with
  | 0, _, _ =>
    obtain ⟨b1, b2, b3, b4⟩ := low_bt (pos2 hq hr) (ba (Bt.mul hq.b1 hr.b2) (Bt.mul hr.b1 hq.b2)) (bm hq.b2 hr.b2)
    exact ⟨_, plus_q hq hr, b3, b1, b2, b4⟩
  | 1, _, _ =>
    obtain ⟨b1, b2, b3, b4⟩ := low_bt (a := q.1 * r.2 - r.1 * q.2) (pos2 hq hr) (by rw [Int.sub_eq_add_neg]; exact ba (Bt.mul hq.b1 hr.b2) (Bt.neg (Bt.mul hr.b1 hq.b2))) (bm hq.b2 hr.b2)
    exact ⟨_, minus_q hq hr, b3, b1, b2, b4⟩
  | 2, _, _ =>
    obtain ⟨b1, b2, b3, b4⟩ := low_bt (pos2 hq hr) (bm hq.b1 hr.b1) (bm hq.b2 hr.b2)
    exact ⟨_, times_q hq hr, b3, b1, b2, b4⟩
  | 3, _, h3 =>
    have h0 := h3 rfl
    have e := over_q (S := S) hq hr h0
    have hq2 := hq.qu.1
    unfold ovr at e
    by_cases c : 0 < r.1
    · rw [if_pos c] at e
      obtain ⟨b1, b2, b3, b4⟩ := low_bt (a := q.1 * r.2) (b := q.2 * r.1) (Int.mul_pos (by omega) c) (bm hq.b1 hr.b2) (bm hq.b2 hr.b1)
      exact ⟨_, e, b3, b1, b2, b4⟩
    · rw [if_neg c] at e
      have : q.2 * r.1 < 0 := Int.mul_neg_of_pos_of_neg (by omega) (by omega)
      obtain ⟨b1, b2, b3, b4⟩ := low_bt (a := -(q.1 * r.2)) (b := -(q.2 * r.1)) (by omega) (Bt.neg (bm hq.b1 hr.b2)) (Bt.neg (bm hq.b2 hr.b1))
      refine ⟨_, e, b3, b1, b2, ?_⟩
      rw [Int.mul_neg, Int.mul_neg] at b4
      exact Int.neg_inj.mp b4
  | k + 4, hk, _ => omega
@[reducible] def EPr (k : Nat) (x y : D) (b : Bool) (a4 : Option D) : MP.Env := [some (.int (k : Nat)), some x, some y, some (.bl b), a4]
theorem likeR {e1 e2 : Ev} {d : D} {ρ : MP.Env} {S S1 S2 : Sto} (h : LikeAt 6 d) (h1 : e1 ρ S = .ok d S1) (h2 : e2 ρ S1 = .ok d S2) : sRet (eCall 2 rf__law_like (aCons e1 (aCons e2 aNil))) ρ S = .ret (.bl true) S2 := ret_ret ((call2 h1 h2).trans (like6 h S2))
theorem refT {w : Str} {ρ : MP.Env} {S : Sto} : eTup (aCons (eC (.str "refused")) (aCons (eC (.str w)) (aCons (eU dNeg (eC (.int 1))) aNil))) ρ S = .ok (refd w) S := tup3_ok c_ok c_ok (neg_ok (x := 1) c_ok)
theorem pair_ok {k : Nat} (hk : k < 5) {x y : D} (hx : PV x) (hy : PV y) (b : Bool) (S : Sto) : rf__law_pair [.int (k : Nat), x, y, .bl b] S = .ok (.bl true) S := by
  unfold rf__law_pair runDef ev__law_pair
  rw [show begins 5 [.int (k : Nat), x, y, .bl b] = EPr k x y b none from rfl]
  have two : ∀ {d : D}, rf__law_two [.int (k : Nat), x, y, .bl b] S = .ok d S → sAsg 4 (eCall 4 rf__law_two (aCons (eVar 0) (aCons (eVar 1) (aCons (eVar 2) (aCons (eVar 3) aNil))))) (EPr k x y b none) S = .next (EPr k x y b (some d)) S := fun h => ret_asg ((call4 (x := .int (k : Nat)) (y := x) (z := y) (w := .bl b) (var_ok rfl) (var_ok rfl) (var_ok rfl) (var_ok rfl)).trans h)
  have tg : ∀ {d : D}, eTest (eB dGt (eVar 0) (eC (.int 4))) (EPr k x y b (some d)) S = .ok false S := fun {d} => by
    have t := test_ok (gt_ok (var_ok (i := 0) (d := .int (k : Nat)) (ρ := EPr k x y b (some d)) (S := S) rfl) (c_ok (d := .int 4)))
    rwa [decide_eq_false (by omega)] at t
  have tx : ∀ {d : D}, eNotT (eTest (eCall 1 rf__law_quotient (aCons (eVar 1) aNil))) (EPr k x y b (some d)) S = .ok (!quoD x) S := fun {d} => not_b (test_ok ((call1 (F := rf__law_quotient) (var_ok (i := 1) (d := x) rfl)).trans (lawquot_ok hx.qv hx.qb S)))
  have ty : ∀ {d : D}, eNotT (eTest (eCall 1 rf__law_quotient (aCons (eVar 2) aNil))) (EPr k x y b (some d)) S = .ok (!quoD y) S := fun {d} => not_b (test_ok ((call1 (F := rf__law_quotient) (var_ok (i := 2) (d := y) rfl)).trans (lawquot_ok hy.qv hy.qb S)))
  have d8 : ∀ {w : Str}, ((quoD x = false ∧ w = "one") ∨ (quoD x = true ∧ quoD y = false ∧ w = "other")) → deed8 k [x, y] S = refus w S := fun {w} h => by
    have e := deed_no hx.qv hy.qv h k S
    match k, hk with
    | 0, _ => exact e
    | 1, _ => exact e
    | 2, _ => exact e
    | 3, _ => exact e
    | 4, _ => exact e
    | k + 5, hk => omega
  cases c1 : quoD x with
  | false =>
    rw [seq_next (two (two_refd (by omega) (d8 (.inl ⟨c1, rfl⟩)))), if_else tg]
    have tx := tx (d := refd "one")
    rw [c1] at tx
    rw [seq_ret ((if_t tx).trans (likeR (like_refd (k := 4) (by decide +kernel)) (var_ok (i := 4) rfl) refT))]
    rfl
  | true =>
    cases c2 : quoD y with
    | false =>
      rw [seq_next (two (two_refd (by omega) (d8 (.inr ⟨c1, c2, rfl⟩)))), if_else tg]
      have tx := tx (d := refd "other")
      rw [c1] at tx
      have ty := ty (d := refd "other")
      rw [c2] at ty
      rw [if_else tx, seq_ret ((if_t (or_t ty)).trans (likeR (like_refd (k := 4) (by decide +kernel)) (var_ok (i := 4) rfl) refT))]
      rfl
    | true =>
      obtain ⟨q, rfl, hq⟩ := hx.at_ c1
      obtain ⟨r, rfl, hr⟩ := hy.at_ c2
      have t0 : ∀ {d : D}, eTest (eB dEq (eB dIx (eVar 2) (eC (.int 0))) (eC (.int 0))) (EPr k (dq q) (dq r) b (some d)) S = .ok (decide (r.1 = 0)) S := fun {d} => test_ok (eq_ok (top_at (v := 2) rfl) c_ok)
      have t3 : ∀ {d : D}, eTest (eB dEq (eVar 0) (eC (.int 3))) (EPr k (dq q) (dq r) b (some d)) S = .ok (decide ((k : Int) = 3)) S := fun {d} => pz_t
      by_cases z : k = 3 ∧ r.1 = 0
      · obtain ⟨rfl, z2⟩ := z
        rw [seq_next (two (two_refd (by omega) (over_0 hq hr z2))), if_else tg]
        have tx := tx (d := refd "other")
        rw [c1] at tx
        have ty := ty (d := refd "other")
        rw [c2] at ty
        have t3 := t3 (d := refd "other")
        rw [decide_eq_true (by decide)] at t3
        have t0 := t0 (d := refd "other")
        rw [decide_eq_true z2] at t0
        rw [if_else tx, seq_ret ((if_t (or_2 ty (and_2 t3 t0))).trans (likeR (like_refd (k := 4) (by decide +kernel)) (var_ok (i := 4) rfl) refT))]
        rfl
      · have tz : ∀ {d : D}, eAndT (eTest (eB dEq (eVar 0) (eC (.int 3)))) (eTest (eB dEq (eB dIx (eVar 2) (eC (.int 0))) (eC (.int 0)))) (EPr k (dq q) (dq r) b (some d)) S = .ok false S := fun {d} => by
          by_cases z1 : k = 3
          · have t3 := t3 (d := d)
            rw [decide_eq_true (by omega)] at t3
            have t0 := t0 (d := d)
            rw [decide_eq_false (fun z2 => z ⟨z1, z2⟩)] at t0
            exact and_2 t3 t0
          · have t3 := t3 (d := d)
            rw [decide_eq_false (by omega)] at t3
            exact and_f t3
        have fin : ∀ {v : D}, deed8 k [dq q, dq r] S = .ok v S → rf__law_reckoned [.int (k : Nat), dq q, dq r, told v] S = .ok (.bl true) S → flowRes ((sSeq (sAsg 4 (eCall 4 rf__law_two (aCons (eVar 0) (aCons (eVar 1) (aCons (eVar 2) (aCons (eVar 3) aNil))))))
          (sSeq (sIf (eTest (eB dGt (eVar 0) (eC (.int 4))))
          (sSeq (sIf (eOrT (eNotT (eTest (eCall 1 rf__law_whole (aCons (eVar 1) aNil)))) (eTest (eB dLt (eVar 1) (eC (.int 0)))))
          (sRet (eCall 2 rf__law_like (aCons (eVar 4) (aCons (eTup (aCons (eC (.str "refused")) (aCons (eC (.str "many")) (aCons (eU dNeg (eC (.int 1))) aNil)))) aNil))))
          sSkip)
          (sSeq (sIf (eTest (eB dEq (eVar 0) (eC (.int 7))))
          (sRet (eCall 2 rf__law_like (aCons (eVar 4) (aCons (eTup (aCons (eC (.str "told")) (aCons (eAnd (eCall 1 rf__law_whole (aCons (eVar 2) aNil)) (eAnd (eB dLe (eU dNeg (eC (.int 4))) (eVar 2)) (eB dLt (eVar 2) (eVar 1)))) aNil))) aNil))))
          sSkip)
          (sRet (eCall 2 rf__law_like (aCons (eVar 4) (aCons (eTup (aCons (eC (.str "told")) (aCons (eCall 3 rf__law_all_of (aCons (eVar 1) (aCons (eVar 2) (aCons (eB dSub (eC (.int 6)) (eVar 0)) aNil)))) aNil))) aNil))))))
          sSkip)
          (sSeq (sIf (eNotT (eTest (eCall 1 rf__law_quotient (aCons (eVar 1) aNil))))
          (sRet (eCall 2 rf__law_like (aCons (eVar 4) (aCons (eTup (aCons (eC (.str "refused")) (aCons (eC (.str "one")) (aCons (eU dNeg (eC (.int 1))) aNil)))) aNil))))
          sSkip)
          (sSeq (sIf (eOrT (eNotT (eTest (eCall 1 rf__law_quotient (aCons (eVar 2) aNil)))) (eAndT (eTest (eB dEq (eVar 0) (eC (.int 3)))) (eTest (eB dEq (eB dIx (eVar 2) (eC (.int 0))) (eC (.int 0))))))
          (sRet (eCall 2 rf__law_like (aCons (eVar 4) (aCons (eTup (aCons (eC (.str "refused")) (aCons (eC (.str "other")) (aCons (eU dNeg (eC (.int 1))) aNil)))) aNil))))
          sSkip)
          (sRet (eCall 4 rf__law_reckoned (aCons (eVar 0) (aCons (eVar 1) (aCons (eVar 2) (aCons (eVar 4) aNil)))))))))) (EPr k (dq q) (dq r) b none) S) = .ok (.bl true) S := fun {v} h hr => by
          have tx := tx (d := told v)
          rw [c1] at tx
          have ty := ty (d := told v)
          rw [c2] at ty
          rw [seq_next (two (two_told (by omega) h)), if_else tg, if_else tx, if_else (or_2 ty tz), ret_ret ((call4 (x := .int (k : Nat)) (y := dq q) (z := dq r) (w := told v) (var_ok rfl) (var_ok rfl) (var_ok rfl) (var_ok rfl)).trans hr)]
          rfl
        by_cases h4 : k < 4
        · obtain ⟨l, e1, e2, e3, e4, e5⟩ := four_ok h4 hq hr (fun e z2 => z ⟨e, z2⟩) S
          exact fin e1 (reck_ok h4 hq hr e2 e3 e4 e5 S)
        · have : k = 4 := by omega
          subst this
          refine fin (less_q hq hr) ?_
          unfold rf__law_reckoned runDef ev__law_reckoned
          rw [show begins 6 [.int ((4 : Nat) : Int), dq q, dq r, told (.bl (decide (q.1 * r.2 < r.1 * q.2)))] = [some (.int ((4 : Nat) : Int)), some (dq q), some (dq r), some (told (.bl (decide (q.1 * r.2 < r.1 * q.2)))), none, none] from rfl]
          have t := pz_t (k := 4) (z := 4) (ρ := [some (dq q), some (dq r), some (told (.bl (decide (q.1 * r.2 < r.1 * q.2)))), none, none]) (S := S)
          rw [decide_eq_true (p := ((4 : Nat) : Int) = 4) rfl] at t
          rw [seq_ret ((if_t t).trans (likeR (d := told (.bl (decide (q.1 * r.2 < r.1 * q.2)))) (like_told (k := 4) (like_bl 4 _)) (var_ok (i := 3) rfl) (tup2_ok c_ok (lt_ok (mul_ok (mulq hq.b1 hr.b2) (top_at (v := 1) rfl) (bot_at (v := 2) rfl)) (mul_ok (mulq hr.b1 hq.b2) (top_at (v := 2) rfl) (bot_at (v := 1) rfl))))))]
          rfl
end LawM
end
section
set_option Elab.async false
set_option linter.all false
set_option maxRecDepth 100000
set_option maxHeartbeats 1000000
/-! K15: two values, the deeds about a number and a row. -/
namespace LawM
open PySem PySem.Spec PyProof.Rows L2 MP
/-- what the deeds from the sixth on tell of a number and a row -/
def tel8 (k : Nat) (n t : D) : Bool := match k with
  | 5 => allD 1 n t
  | 6 => allD 0 n t
  | _ => plcD (match n with | .int i => i | _ => 0) t
theorem hi_ok {k : Nat} (h4 : 4 < k) (hk : k < 8) {n t : D} (hn : pln n = true) (ht : RV t) (S : Sto) : ∃ G, deed8 k [n, t] S = if cntD n = true then .ok (.bl (tel8 k n t)) (S ++ G) else refus "many" S := by
  match k, h4, hk with
  | 5, _, _ => exact shapes_ok hn ht S
  | 6, _, _ => exact table_ok hn ht S
  | 7, _, _ =>
    refine ⟨[], ?_⟩
    rw [List.append_nil]
    have e := place_ok hn ht.1 S
    cases n <;> exact e
  | 0, h, _ => omega
  | 1, h, _ => omega
  | 2, h, _ => omega
  | 3, h, _ => omega
  | 4, h, _ => omega
  | k + 8, _, h => omega
theorem lcnt {d : D} (hp : pln d = true) {ρ : MP.Env} {S : Sto} {v : Nat} (h0 : ρ[v]? = some (some d)) : eOrT (eNotT (eTest (eCall 1 rf__law_whole (aCons (eVar v) aNil)))) (eTest (eB dLt (eVar v) (eC (.int 0)))) ρ S = .ok (!cntD d) S := by
  have t1 := not_b (test_ok ((call1 (F := rf__law_whole) (var_ok (i := v) (d := d) (ρ := ρ) (S := S) h0)).trans (whole_ok hp)))
  by_cases c : isI d = true
  · rw [c] at t1
    obtain ⟨i, rfl⟩ := int_is c
    rw [or_2 t1 (test_ok (lt_ok (var_ok h0) c_ok))]
    show Res.ok (decide (i < 0)) S = Res.ok (!decide (0 ≤ i)) S
    by_cases q : i < 0
    · rw [decide_eq_true q, decide_eq_false (by omega)]; rfl
    · rw [decide_eq_false q, decide_eq_true (by omega)]; rfl
  · have c : isI d = false := by simpa using c
    rw [c] at t1
    rw [or_t t1]
    cases d <;> first
      | (cases c; done)
      | rfl
theorem lplc {i : Int} {d : D} (hp : pln d = true) {ρ : MP.Env} {S : Sto} {u v : Nat} (h0 : ρ[u]? = some (some (.int i))) (h1 : ρ[v]? = some (some d)) : eAnd (eCall 1 rf__law_whole (aCons (eVar v) aNil)) (eAnd (eB dLe (eU dNeg (eC (.int 4))) (eVar v)) (eB dLt (eVar v) (eVar u))) ρ S = .ok (.bl (plcD i d)) S := by
  have e1 := (call1 (F := rf__law_whole) (var_ok (i := v) (d := d) (ρ := ρ) (S := S) h1)).trans (whole_ok hp)
  by_cases c : isI d = true
  · rw [c] at e1
    obtain ⟨j, rfl⟩ := int_is c
    refine eAnd_ok e1 (d := .bl (plcD i (.int j))) (S2 := S) ?_
    have e2 : eB dLe (eU dNeg (eC (.int 4))) (eVar v) ρ S = .ok (.bl (decide (-4 ≤ j))) S := le_ok (neg_ok (x := 4) c_ok) (var_ok h1)
    have e3 : eB dLt (eVar v) (eVar u) ρ S = .ok (.bl (decide (j < i))) S := lt_ok (var_ok h1) (var_ok h0)
    show _ = Res.ok (D.bl (decide (-4 ≤ j) && decide (j < i))) S
    by_cases q : -4 ≤ j
    · rw [decide_eq_true q] at e2 ⊢
      rw [eAnd_ok e2 e3, Bool.true_and]
    · rw [decide_eq_false q] at e2 ⊢
      rw [eAnd_f e2]
      rfl
  · have c : isI d = false := by simpa using c
    rw [c] at e1
    rw [eAnd_f e1]
    cases d <;> first
      | (cases c; done)
      | rfl
theorem pair_hi {k : Nat} (h4 : 4 < k) (hk : k < 8) {x y : D} (hn : pln x = true) (ht : RV y) (b : Bool) (S : Sto) : ∃ G, rf__law_pair [.int (k : Nat), x, y, .bl b] S = .ok (.bl true) (S ++ G) := by
  obtain ⟨G, e⟩ := hi_ok h4 hk hn ht S
  unfold rf__law_pair runDef ev__law_pair
  rw [show begins 5 [.int (k : Nat), x, y, .bl b] = EPr k x y b none from rfl]
  have two : ∀ {d : D} {T : Sto}, rf__law_two [.int (k : Nat), x, y, .bl b] S = .ok d T → sAsg 4 (eCall 4 rf__law_two (aCons (eVar 0) (aCons (eVar 1) (aCons (eVar 2) (aCons (eVar 3) aNil))))) (EPr k x y b none) S = .next (EPr k x y b (some d)) T := fun h => ret_asg ((call4 (x := .int (k : Nat)) (y := x) (z := y) (w := .bl b) (var_ok rfl) (var_ok rfl) (var_ok rfl) (var_ok rfl)).trans h)
  have tg : ∀ {d : D} {T : Sto}, eTest (eB dGt (eVar 0) (eC (.int 4))) (EPr k x y b (some d)) T = .ok true T := fun {d T} => by
    have t := test_ok (gt_ok (var_ok (i := 0) (d := .int (k : Nat)) (ρ := EPr k x y b (some d)) (S := T) rfl) (c_ok (d := .int 4)))
    rwa [decide_eq_true (by omega)] at t
  have tc : ∀ {d : D} {T : Sto}, eOrT (eNotT (eTest (eCall 1 rf__law_whole (aCons (eVar 1) aNil)))) (eTest (eB dLt (eVar 1) (eC (.int 0)))) (EPr k x y b (some d)) T = .ok (!cntD x) T := fun {d T} => lcnt hn rfl
  cases c : cntD x with
  | false =>
    rw [c, if_neg (by decide)] at e
    have tc := tc (d := refd "many") (T := S)
    rw [c] at tc
    refine ⟨[], ?_⟩
    rw [seq_next (two (two_refd hk e)), seq_ret ((if_t tg).trans (seq_ret ((if_t tc).trans (likeR (like_refd (k := 4) (by decide +kernel)) (var_ok (i := 4) rfl) refT)))), List.append_nil]
    rfl
  | true =>
    rw [c, if_pos rfl] at e
    refine ⟨G, ?_⟩
    rw [seq_next (two (two_told hk e))]
    obtain ⟨i, rfl, h0⟩ := cnt_at c
    have tc := tc (d := told (.bl (tel8 k (.int i) y))) (T := S ++ G)
    rw [c] at tc
    have t7 := pz_t (k := k) (z := 7) (ρ := [some (.int i), some y, some (.bl b), some (told (.bl (tel8 k (.int i) y)))]) (S := S ++ G)
    by_cases h7 : k = 7
    · subst h7
      rw [decide_eq_true (p := ((7 : Nat) : Int) = 7) rfl] at t7
      rw [seq_ret ((if_t tg).trans ((if_else tc).trans (seq_ret ((if_t t7).trans (likeR (d := told (.bl (tel8 7 (.int i) y))) (like_told (k := 4) (like_bl 4 _)) (var_ok (i := 4) rfl) (tup2_ok c_ok (lplc ht.1 (i := i) rfl rfl)))))))]
      rfl
    · rw [decide_eq_false (by omega)] at t7
      have ea : eCall 3 rf__law_all_of (aCons (eVar 1) (aCons (eVar 2) (aCons (eB dSub (eC (.int 6)) (eVar 0)) aNil))) (EPr k (.int i) y b (some (told (.bl (tel8 k (.int i) y))))) (S ++ G) = .ok (.bl (tel8 k (.int i) y)) (S ++ G) := by
        refine (call3 (x := .int i) (y := y) (z := .int (6 - (k : Int))) (var_ok rfl) (var_ok rfl) (sub_ok (c_ok (d := .int 6)) (var_ok (i := 0) (d := .int (k : Nat)) rfl))).trans ?_
        rw [all_of_ok ht]
        have : k = 5 ∨ k = 6 := by omega
        rcases this with rfl | rfl <;> rfl
      rw [seq_ret ((if_t tg).trans ((if_else tc).trans ((if_else t7).trans (likeR (d := told (.bl (tel8 k (.int i) y))) (like_told (k := 4) (like_bl 4 _)) (var_ok (i := 4) rfl) (tup2_ok c_ok ea)))))]
      rfl
end LawM
end
section
set_option Elab.async false
set_option linter.all false
set_option maxRecDepth 100000
set_option maxHeartbeats 1000000
/-! K16: values drawn from the pool: small quotients and great numbers. -/
namespace LawM
open PySem PySem.Spec PyProof.Rows L2 MP
theorem small_ok {C P : List D} {n : Nat} {R : Sto} (h : Pl C P n) (hn : n < 2 ^ 50) : ∃ (q : Int × Int) (C' P' : List D), rf__law_small [.lst 1] (C :: P :: R) = .ok (dq q) (C' :: P' :: R) ∧ Qu q ∧ Bt q.1 60 ∧ Bt q.2 60 ∧ Pl C' P' (n + 2) := by
  unfold rf__law_small runDef ev__law_small
  rw [show begins 1 [.lst 1] = [some (.lst 1)] from rfl]
  obtain ⟨r, C1, P1, e1, l1, h1⟩ := tk_ok (e := eC (.int 25)) (m := 25) (R := R) (ρ := [some (.lst 1)]) take_is h rfl (fun S => c_ok) (by decide) (by decide) (by omega)
  obtain ⟨s, C2, P2, e2, l2, h2⟩ := tk_ok (e := eC (.int 12)) (m := 12) (R := R) (ρ := [some (.lst 1)]) take_is h1 rfl (fun S => c_ok) (by decide) (by decide) (by omega)
  have hp : (0 : Int) < 1 + (s : Int) := by omega
  have ba : Bt ((r : Int) - 12) 60 := by unfold Bt; have : (2 : Nat) ^ 60 = 1152921504606846976 := by decide
                                         omega
  have bb : Bt (1 + (s : Int)) 60 := by unfold Bt; have : (2 : Nat) ^ 60 = 1152921504606846976 := by decide
                                        omega
  obtain ⟨b1, b2, b3, _⟩ := low_bt hp ba bb
  refine ⟨low ((r : Int) - 12) (1 + (s : Int)), C2, P2, ?_, b3, b1, b2, h2⟩
  rw [ret_ret ((call2 (sub_ok e1 c_ok) (add_ok c_ok e2)).trans (lawlow_ok hp (Nat.lt_of_lt_of_le bb (Nat.pow_le_pow_right (by decide) (by decide)))))]
  rfl
def bigs : List D := [.int (10 ^ 9), .int (10 ^ 20), .int (10 ^ 40), .int (10 ^ 59)]
theorem great_ok {C P : List D} {n : Nat} {R : Sto} (h : Pl C P n) (hn : n < 2 ^ 50) : ∃ (z : Int) (C' P' : List D), rf__law_great [.lst 1] (C :: P :: R) = .ok (.int z) (C' :: P' :: (R ++ [bigs])) ∧ Bt z 210 ∧ z ≠ 0 ∧ Pl C' P' (n + 3) := by
  unfold rf__law_great runDef ev__law_great
  rw [show begins 3 [.lst 1] = [some (.lst 1), none, none] from rfl]
  have e0 : eLst (aCons (eB dPow (eC (.int 10)) (eC (.int 9))) (aCons (eB dPow (eC (.int 10)) (eC (.int 20))) (aCons (eB dPow (eC (.int 10)) (eC (.int 40))) (aCons (eB dPow (eC (.int 10)) (eC (.int 59))) aNil)))) [some (.lst 1), none, none] (C :: P :: R) = .ok (.lst (C :: P :: R).length) (C :: P :: (R ++ [bigs])) :=
    al_lst (al_cons (b_ok c_ok c_ok (pow10 9 (by decide))) (al_cons (b_ok c_ok c_ok (pow10 20 (by decide))) (al_cons (b_ok c_ok c_ok (pow10 40 (by decide))) (al_cons (b_ok c_ok c_ok (pow10 59 (by decide))) al_nil)))) (by show (4 : Nat) ≤ 1000; decide)
  rw [seq_next (ret_asg e0)]
  simp only [List.set_cons_zero, List.set_cons_succ]
  obtain ⟨r, C1, P1, e1, l1, h1⟩ := tk_ok (e := eC (.int 4)) (m := 4) (R := R ++ [bigs]) (ρ := [some (.lst 1), some (.lst (C :: P :: R).length), none]) take_is h rfl (fun S => c_ok) (by decide) (by decide) (by omega)
  obtain ⟨s, C2, P2, e2, l2, h2⟩ := tk_ok (e := eC (.int 1000)) (m := 1000) (R := R ++ [bigs]) (ρ := [some (.lst 1), some (.lst (C :: P :: R).length), none]) take_is h1 rfl (fun S => c_ok) (by decide) (by decide) (by omega)
  obtain ⟨v, hv, hb⟩ : ∃ v : Int, bigs[r]? = some (.int v) ∧ 1 ≤ v ∧ Bt v 209 := by
    match r, l1 with
    | 0, _ => exact ⟨10 ^ 9, rfl, by decide +kernel, by unfold Bt; decide +kernel⟩
    | 1, _ => exact ⟨10 ^ 20, rfl, by decide +kernel, by unfold Bt; decide +kernel⟩
    | 2, _ => exact ⟨10 ^ 40, rfl, by decide +kernel, by unfold Bt; decide +kernel⟩
    | 3, _ => exact ⟨10 ^ 59, rfl, by decide +kernel, by unfold Bt; decide +kernel⟩
    | r + 4, h => omega
  have ei : eB dIx (eVar 1) (eCall 2 rf__law_take (aCons (eVar 0) (aCons (eC (.int 4)) aNil))) [some (.lst 1), some (.lst (C :: P :: R).length), none] (C :: P :: (R ++ [bigs])) = .ok (.int v) (C1 :: P1 :: (R ++ [bigs])) := b_ok (var_ok rfl) e1 (ix_lst (k := r) (by show (R ++ [bigs])[R.length]? = _; exact at_end R bigs) hv)
  rw [seq_next (ret_asg (add_ok ei e2))]
  simp only [List.set_cons_zero, List.set_cons_succ]
  obtain ⟨t, C3, P3, e3, l3, h3⟩ := tk_ok (e := eC (.int 2)) (m := 2) (R := R ++ [bigs]) (ρ := [some (.lst 1), some (.lst (C :: P :: R).length), some (.int (v + (s : Int)))]) take_is h2 rfl (fun S => c_ok) (by decide) (by decide) (by omega)
  have bs : Bt (s : Int) 209 := by
    refine Bt.mono (a := 60) ?_ (by decide)
    unfold Bt
    have : (2 : Nat) ^ 60 = 1152921504606846976 := by decide
    omega
  have bz := Bt.add hb.2 bs
  have te := test_ok (eq_ok e3 (c_ok (d := .int 1)))
  by_cases c : (t : Int) = 1
  · rw [decide_eq_true c] at te
    refine ⟨0 - (v + (s : Int)), C3, P3, ?_, ?_, by omega, h3⟩
    · rw [seq_ret ((if_t te).trans (ret_ret (sub_ok (c_ok (d := .int 0)) (var_ok (i := 2) rfl))))]
      rfl
    · rw [Int.zero_sub]
      exact Bt.neg bz
  · rw [decide_eq_false c] at te
    refine ⟨v + (s : Int), C3, P3, ?_, bz, by omega, h3⟩
    rw [seq_next (if_s te), ret_ret (var_ok (i := 2) rfl)]
    rfl
end LawM
end
section
set_option Elab.async false
set_option linter.all false
set_option maxRecDepth 100000
set_option maxHeartbeats 1000000
/-! K17: the menu. -/
namespace LawM
open PySem PySem.Spec PyProof.Rows L2 MP
/-- a value that the menu may bring -/
structure MV (v : D) : Prop where
  pv : PV v
  sm : Sm v
  rv : RV v
theorem sm_no {v : D} (h : isI v = false) : Sm v := fun i e => by
  subst e
  cases h
theorem rv_no {v : D} (hp : pln v = true) (h : ∀ xs, v ≠ .tup xs) : RV v := ⟨hp, fun xs e => absurd e (h xs)⟩
theorem mv_int {i : Int} (h : Bt i 1200) : MV (.int i) where
  pv := ⟨rfl, fun a b e => (by cases e), fun q e => (by cases e)⟩
  sm := fun j e => by
    cases e
    exact log_lt (k := 1920) (h.mono (by decide)) (by decide)
  rv := rv_no rfl fun xs e => by cases e
theorem mv_bl {b : Bool} : MV (.bl b) where
  pv := ⟨rfl, fun a b e => (by cases e), fun q e => (by cases e)⟩
  sm := sm_no rfl
  rv := rv_no rfl fun xs e => by cases e
theorem mv_str {b : Str} : MV (.str b) where
  pv := ⟨rfl, fun a b e => (by cases e), fun q e => (by cases e)⟩
  sm := sm_no rfl
  rv := rv_no rfl fun xs e => by cases e
theorem mv_lst {b : Nat} : MV (.lst b) where
  pv := ⟨rfl, fun a b e => (by cases e), fun q e => (by cases e)⟩
  sm := sm_no rfl
  rv := rv_no rfl fun xs e => by cases e
theorem mv_non : MV .non where
  pv := ⟨rfl, fun a b e => (by cases e), fun q e => (by cases e)⟩
  sm := sm_no rfl
  rv := rv_no rfl fun xs e => by cases e
theorem mv_ii {a b : Int} (ha : Bt a 1200) (hb : Bt b 1200) : PV (.tup [.int a, .int b]) where
  qv := qv_dq (q := (a, b))
  qb := fun x y e => by
    cases e
    exact hb.mono (by decide)
  bt := fun q e => by
    cases e
    exact ⟨ha, hb⟩
theorem rv_two {x y : D} (hx : QV x ∧ QB x) (hy : QV y ∧ QB y) : RV (.tup [x, y]) := ⟨by
  rfl, fun xs e => by
  cases e
  refine ⟨by show 2 ≤ 1000; decide, fun z hz => ?_⟩
  simp only [List.mem_cons, List.not_mem_nil, or_false] at hz
  rcases hz with rfl | rfl
  · exact hx
  · exact hy⟩
theorem int_qq {i : Int} : QV (.int i) ∧ QB (.int i) := ⟨rfl, fun a b e => by cases e⟩
theorem mv_q {a b : Int} (ha : Bt a 1200) (hb : Bt b 1200) : MV (.tup [.int a, .int b]) where
  pv := mv_ii ha hb
  sm := sm_no rfl
  rv := rv_two int_qq int_qq
theorem mv_tup {xs : List D} (hl : xs.length ≤ 1000) (hn : ∀ a b : Int, xs ≠ [.int a, .int b]) (hq : ∀ x ∈ xs, pln x = true ∧ QV x ∧ QB x) : MV (.tup xs) where
  pv := ⟨⟨hl, fun x hx => (hq x hx).1⟩, fun a b e => (by cases e; exact absurd rfl (hn a b)), fun q e => (by cases e; exact absurd rfl (hn q.1 q.2))⟩
  sm := sm_no rfl
  rv := ⟨rfl, fun ys e => by
    cases e
    exact ⟨hl, fun x hx => (hq x hx).2⟩⟩
end LawM
end
section
set_option Elab.async false
set_option linter.all false
set_option maxRecDepth 100000
set_option maxHeartbeats 1000000
/-! K18: the menu's value, its parts. -/
namespace LawM
open PySem PySem.Spec PyProof.Rows L2 MP
theorem small_q {q : Int × Int} (h1 : Bt q.1 60) (h2 : Bt q.2 60) : MV (dq q) := mv_q (h1.mono (by decide)) (h2.mono (by decide))
theorem bt_nat {r m : Nat} (h : r < m) (hm : m ≤ 2 ^ 30) : Bt (r : Int) 31 := by
  unfold Bt
  have : (2 : Nat) ^ 30 = 1073741824 := by decide
  have : (2 : Nat) ^ 31 = 2147483648 := by decide
  omega
/-- the pairs with True and False in them -/
def bps : List D := [.tup [.bl true, .int 1], .tup [.int 1, .bl true], .tup [.bl false, .int 1], .tup [.int 0, .bl true], .tup [.int 2, .bl true], .tup [.bl true, .int 2]]
theorem mv_p {x y : D} (hx : pln x = true ∧ QV x ∧ QB x) (hy : pln y = true ∧ QV y ∧ QB y) (hn : isI x = false ∨ isI y = false) : MV (.tup [x, y]) := mv_tup (by show 2 ≤ 1000; decide) (fun a b e => by
  cases e
  rcases hn with h | h <;> cases h) fun z hz => by
  simp only [List.mem_cons, List.not_mem_nil, or_false] at hz
  rcases hz with rfl | rfl
  · exact hx
  · exact hy
theorem p_int {i : Int} : pln (.int i) = true ∧ QV (.int i) ∧ QB (.int i) := ⟨rfl, int_qq⟩
theorem p_bl {i : Bool} : pln (.bl i) = true ∧ QV (.bl i) ∧ QB (.bl i) := ⟨rfl, rfl, fun a b e => by cases e⟩
theorem p_str {i : Str} : pln (.str i) = true ∧ QV (.str i) ∧ QB (.str i) := ⟨rfl, rfl, fun a b e => by cases e⟩
theorem p_non : pln .non = true ∧ QV .non ∧ QB .non := ⟨rfl, rfl, fun a b e => by cases e⟩
theorem mv_bps {k : Nat} {d : D} (h : bps[k]? = some d) : MV d := by
  unfold bps at h
  match k, h with
  | 0, h => cases h; exact mv_p p_bl p_int (.inl rfl)
  | 1, h => cases h; exact mv_p p_int p_bl (.inr rfl)
  | 2, h => cases h; exact mv_p p_bl p_int (.inl rfl)
  | 3, h => cases h; exact mv_p p_int p_bl (.inr rfl)
  | 4, h => cases h; exact mv_p p_int p_bl (.inr rfl)
  | 5, h => cases h; exact mv_p p_bl p_int (.inl rfl)
  | k + 6, h => cases h
/-- the odd ones; n is where the list of them keeps its own list -/
def odds (n : Nat) : List D := [.non, .str "", .str "1/2", .str "1", .lst n, .tup [.int 1], .tup [.int 1, .int 2, .int 3], .tup [], .tup [.tup [.int 1, .int 2]], .tup [.int 1, .non], .tup [.str "1", .int 2], .tup [.int 1, .str "2"], .bl true, .bl false]
theorem mv_odds {n k : Nat} {d : D} (h : (odds n)[k]? = some d) : MV d := by
  unfold odds at h
  match k, h with
  | 0, h => cases h; exact mv_non
  | 1, h => cases h; exact mv_str
  | 2, h => cases h; exact mv_str
  | 3, h => cases h; exact mv_str
  | 4, h => cases h; exact mv_lst
  | 5, h =>
    cases h
    exact mv_tup (by show 1 ≤ 1000; decide) (fun a b e => by cases e) fun z hz => by
      simp only [List.mem_cons, List.not_mem_nil, or_false] at hz
      subst hz
      exact p_int
  | 6, h =>
    cases h
    exact mv_tup (by show 3 ≤ 1000; decide) (fun a b e => by cases e) fun z hz => by
      simp only [List.mem_cons, List.not_mem_nil, or_false] at hz
      rcases hz with rfl | rfl | rfl <;> exact p_int
  | 7, h =>
    cases h
    exact mv_tup (by show 0 ≤ 1000; decide) (fun a b e => by cases e) fun z hz => by cases hz
  | 8, h =>
    cases h
    exact mv_tup (by show 1 ≤ 1000; decide) (fun a b e => by cases e) fun z hz => by
      simp only [List.mem_cons, List.not_mem_nil, or_false] at hz
      subst hz
      have m := mv_q (a := 1) (b := 2) (by unfold Bt; exact Nat.lt_of_lt_of_le (by decide : (1 : Int).natAbs < 2 ^ 2) (Nat.pow_le_pow_right (by decide) (by decide))) (by unfold Bt; exact Nat.lt_of_lt_of_le (by decide : (2 : Int).natAbs < 2 ^ 2) (Nat.pow_le_pow_right (by decide) (by decide)))
      exact ⟨rfl, m.pv.qv, m.pv.qb⟩
  | 9, h => cases h; exact mv_p p_int p_non (.inr rfl)
  | 10, h => cases h; exact mv_p p_str p_int (.inl rfl)
  | 11, h => cases h; exact mv_p p_int p_str (.inr rfl)
  | 12, h => cases h; exact mv_bl
  | 13, h => cases h; exact mv_bl
  | k + 14, h => cases h
end LawM
end
section
set_option Elab.async false
set_option linter.all false
set_option maxRecDepth 100000
set_option maxHeartbeats 1000000
/-! K19: the store beyond the pool; the menu's value. -/
namespace LawM
open PySem PySem.Spec PyProof.Rows L2 MP
/-- a store that begins with the pool -/
def Po (n : Nat) (S : Sto) : Prop := ∃ C P R, S = C :: P :: R ∧ Pl C P n
/-- what stands beyond the pool stands still -/
def Fr (S T : Sto) : Prop := S.length ≤ T.length ∧ ∀ k, 2 ≤ k → k < S.length → T[k]? = S[k]?
theorem Fr.refl (S : Sto) : Fr S S := ⟨Nat.le_refl _, fun _ _ _ => rfl⟩
theorem Fr.trans {S T U : Sto} (h : Fr S T) (k : Fr T U) : Fr S U := ⟨Nat.le_trans h.1 k.1, fun i a b => (k.2 i a (Nat.lt_of_lt_of_le b h.1)).trans (h.2 i a b)⟩
theorem Fr.at_ {S T : Sto} {k : Nat} {xs : List D} (h : Fr S T) (k2 : 2 ≤ k) (e : S[k]? = some xs) : T[k]? = some xs := by
  rw [h.2 k k2 (List.getElem?_eq_some_iff.mp e).1, e]
theorem Fr.app (S G : Sto) : Fr S (S ++ G) := ⟨by simp, fun k _ h => List.getElem?_append_left h⟩
theorem Fr.set {S T : Sto} {k : Nat} {xs : List D} (h : Fr S T) (hk : S.length ≤ k) : Fr S (T.set k xs) := ⟨by simpa using h.1, fun i a b => by
  rw [List.getElem?_set_ne (by omega)]
  exact h.2 i a b⟩
theorem Po.app {n : Nat} {S : Sto} (h : Po n S) (G : Sto) : Po n (S ++ G) := by
  obtain ⟨C, P, R, rfl, h⟩ := h
  exact ⟨C, P, R ++ G, rfl, h⟩
theorem Po.set {n k : Nat} {S : Sto} {xs : List D} (h : Po n S) (hk : 2 ≤ k) : Po n (S.set k xs) := by
  obtain ⟨C, P, R, rfl, h⟩ := h
  match k, hk with
  | k + 2, _ => exact ⟨C, P, R.set k xs, rfl, h⟩
theorem Po.mono {n m : Nat} {S : Sto} (h : Po n S) (k : n ≤ m) : Po m S := by
  obtain ⟨C, P, R, rfl, h⟩ := h
  exact ⟨C, P, R, rfl, h.mono k⟩
theorem Po.len {n : Nat} {S : Sto} (h : Po n S) : 2 ≤ S.length := by
  obtain ⟨C, P, R, rfl, h⟩ := h
  simp
theorem Fr.po {C P C' P' : List D} {R L : Sto} : Fr (C :: P :: R) (C' :: P' :: (R ++ L)) := ⟨by simp, fun k h2 h => by
  match k, h2 with
  | k + 2, _ =>
    simp only [List.getElem?_cons_succ]
    exact List.getElem?_append_left (by simpa using h)⟩
theorem Fr.po0 {C P C' P' : List D} {R : Sto} : Fr (C :: P :: R) (C' :: P' :: R) := by
  have := Fr.po (C := C) (P := P) (R := R) (C' := C') (P' := P') (L := [])
  rwa [List.append_nil] at this
theorem tkC {n i : Nat} {z : Int} {S : Sto} {ρ : MP.Env} (m : Nat) (h : Po n S) (hn : n < 2 ^ 50) (h0 : ρ[i]? = some (some (.lst 1)) := by rfl) (hz : z = (m : Int) := by rfl) (hm : 0 < m := by decide) (hm2 : m < 2 ^ 60 := by decide) : ∃ (r : Nat) (S' : Sto), eCall 2 rf__law_take (aCons (eVar i) (aCons (eC (.int z)) aNil)) ρ S = .ok (.int (r : Int)) S' ∧ r < m ∧ Po (n + 1) S' ∧ Fr S S' := by
  subst hz
  obtain ⟨C, P, R, rfl, h⟩ := h
  obtain ⟨r, C', P', e1, e2, e3⟩ := take_ok (R := R) h hm hm2 (by omega)
  exact ⟨r, C' :: P' :: R, by rw [call2 (var_ok h0) c_ok, e1], e2, ⟨_, _, _, rfl, e3⟩, Fr.po0⟩
theorem smallP {n i : Nat} {S : Sto} {ρ : MP.Env} (h : Po n S) (hn : n < 2 ^ 50) (h0 : ρ[i]? = some (some (.lst 1)) := by rfl) : ∃ (q : Int × Int) (S' : Sto), eCall 1 rf__law_small (aCons (eVar i) aNil) ρ S = .ok (dq q) S' ∧ Qu q ∧ Bt q.1 60 ∧ Bt q.2 60 ∧ Po (n + 2) S' ∧ Fr S S' := by
  obtain ⟨C, P, R, rfl, h⟩ := h
  obtain ⟨q, C', P', e1, e2, e3, e4, e5⟩ := small_ok (R := R) h hn
  exact ⟨q, C' :: P' :: R, by rw [call1 (var_ok h0), e1], e2, e3, e4, ⟨_, _, _, rfl, e5⟩, Fr.po0⟩
theorem greatP {n i : Nat} {S : Sto} {ρ : MP.Env} (h : Po n S) (hn : n < 2 ^ 50) (h0 : ρ[i]? = some (some (.lst 1)) := by rfl) : ∃ (z : Int) (S' : Sto), eCall 1 rf__law_great (aCons (eVar i) aNil) ρ S = .ok (.int z) S' ∧ Bt z 210 ∧ z ≠ 0 ∧ Po (n + 3) S' ∧ Fr S S' := by
  obtain ⟨C, P, R, rfl, h⟩ := h
  obtain ⟨z, C', P', e1, e2, e3, e4⟩ := great_ok (R := R) h hn
  exact ⟨z, C' :: P' :: (R ++ [bigs]), by rw [call1 (var_ok h0), e1], e2, e3, ⟨_, _, _, rfl, e4⟩, Fr.po⟩
section
variable {i r : Nat} {z : Int} {ρ : MP.Env} {S S' : Sto} {A R : Es} {d : D}
theorem pk_n (h0 : ρ[i]? = some (some (.int (r : Nat)))) (h : (r : Int) ≠ z) : sSeq (sIf (eTest (eB dEq (eVar i) (eC (.int z)))) A sSkip) R ρ S = R ρ S := by
  have t := test_ok (eq_ok (var_ok (S := S) h0) (c_ok (d := .int z)))
  rw [decide_eq_false h] at t
  exact if_else t
theorem pk_y (h0 : ρ[i]? = some (some (.int (r : Nat)))) (h : (r : Int) = z) (e : A ρ S = .ret d S') : sSeq (sIf (eTest (eB dEq (eVar i) (eC (.int z)))) A sSkip) R ρ S = .ret d S' := by
  have t := test_ok (eq_ok (var_ok (S := S) h0) (c_ok (d := .int z)))
  rw [decide_eq_true h] at t
  exact seq_ret ((if_t t).trans e)
theorem pl_n (h0 : ρ[i]? = some (some (.int (r : Nat)))) (h : ¬ (r : Int) < z) : sSeq (sIf (eTest (eB dLt (eVar i) (eC (.int z)))) A sSkip) R ρ S = R ρ S := by
  have t := test_ok (lt_ok (var_ok (S := S) h0) (c_ok (d := .int z)))
  rw [decide_eq_false h] at t
  exact if_else t
theorem pl_y (h0 : ρ[i]? = some (some (.int (r : Nat)))) (h : (r : Int) < z) (e : A ρ S = .ret d S') : sSeq (sIf (eTest (eB dLt (eVar i) (eC (.int z)))) A sSkip) R ρ S = .ret d S' := by
  have t := test_ok (lt_ok (var_ok (S := S) h0) (c_ok (d := .int z)))
  rw [decide_eq_true h] at t
  exact seq_ret ((if_t t).trans e)
end
theorem btz {z : Int} {n : Nat} (h : -(1000000000 : Int) < z) (h2 : z < 1000000000) (hn : 30 ≤ n) : Bt z n := by
  refine Bt.mono (a := 30) ?_ hn
  unfold Bt
  have : (2 : Nat) ^ 30 = 1073741824 := by decide
  omega
theorem lof {a b : Int} {S : Sto} : dListOf [dq (a, b)] S = some (.lst S.length, S ++ [[.int a, .int b]]) := by
  simp [dListOf, itemsOf, dq, dLst_ok]
theorem value_ok {n : Nat} {S : Sto} (h : Po n S) (hn : n < 2 ^ 49) : ∃ (v : D) (S' : Sto), rf__law_value [.lst 1] S = .ok v S' ∧ MV v ∧ Po (n + 8) S' ∧ Fr S S' := by
  unfold rf__law_value runDef ev__law_value
  rw [show begins 5 [.lst 1] = [some (.lst 1), none, none, none, none] from rfl]
  obtain ⟨r, S1, e1, l1, h1, f1⟩ := tkC (i := 0) (z := 16) (ρ := [some (.lst 1), none, none, none, none]) 16 h (by omega)
  rw [seq_next (ret_asg e1)]
  simp only [List.set_cons_zero, List.set_cons_succ]
  by_cases c6 : r < 6
  · obtain ⟨q, S2, e2, hq, b1, b2, h2, f2⟩ := smallP (i := 0) (ρ := [some (.lst 1), some (.int (r : Nat)), none, none, none]) h1 (by omega)
    refine ⟨dq q, S2, ?_, small_q b1 b2, h2.mono (by omega), f1.trans f2⟩
    rw [pl_y (r := r) rfl (by omega) (ret_ret e2)]
    rfl
  rw [pl_n (r := r) rfl (by omega)]
  by_cases d6 : r = 6
  · obtain ⟨z, S2, e2, b2, n2, h2, f2⟩ := greatP (i := 0) (ρ := [some (.lst 1), some (.int (r : Nat)), none, none, none]) h1 (by omega)
    obtain ⟨y, S3, e3, b3, n3, h3, f3⟩ := greatP (i := 0) (ρ := [some (.lst 1), some (.int (r : Nat)), none, none, none]) h2 (by omega)
    have b3' : Bt ((y.natAbs : Nat) : Int) 210 := by
      unfold Bt at b3 ⊢
      simpa using b3
    have hp : (0 : Int) < ((y.natAbs : Nat) : Int) := by omega
    obtain ⟨q1, q2, q3, _⟩ := low_bt hp b2 b3'
    refine ⟨dq (low z ((y.natAbs : Nat) : Int)), S3, ?_, mv_q (q1.mono (by decide)) (q2.mono (by decide)), h3.mono (by omega), (f1.trans f2).trans f3⟩
    rw [pk_y (r := r) rfl (by omega) (ret_ret ((call2 e2 (el_ok (g := dAbs) e3 rfl)).trans (lawlow_ok hp (b3'.mono (by decide)))))]
    rfl
  rw [pk_n (r := r) rfl (by omega)]
  by_cases d7 : r = 7
  · obtain ⟨a, S2, e2, l2, h2, f2⟩ := tkC (i := 0) (z := 9) (ρ := [some (.lst 1), some (.int (r : Nat)), none, none, none]) 9 h1 (by omega)
    obtain ⟨b, S3, e3, l3, h3, f3⟩ := tkC (i := 0) (z := 7) (ρ := [some (.lst 1), some (.int (r : Nat)), none, none, none]) 7 h2 (by omega)
    refine ⟨.tup [.int ((a : Int) - 4), .int ((b : Int) - 2)], S3, ?_, mv_q (btz (by omega) (by omega) (by decide)) (btz (by omega) (by omega) (by decide)), h3.mono (by omega), (f1.trans f2).trans f3⟩
    rw [pk_y (r := r) rfl (by omega) (ret_ret (tup2_ok (sub_ok e2 c_ok) (sub_ok e3 c_ok)))]
    rfl
  rw [pk_n (r := r) rfl (by omega)]
  by_cases d8 : r = 8
  · obtain ⟨a, S2, e2, l2, h2, f2⟩ := tkC (i := 0) (z := 6) (ρ := [some (.lst 1), some (.int (r : Nat)), none, none, none]) 6 (h1.app [bps]) (by omega)
    obtain ⟨v, hv⟩ : ∃ v, bps[a]? = some v := ⟨_, List.getElem?_eq_getElem (by show a < 6; omega)⟩
    have k := f2.at_ h1.len (at_end S1 bps)
    refine ⟨v, S2, ?_, mv_bps hv, h2.mono (by omega), (f1.trans (Fr.app _ _)).trans f2⟩
    rw [pk_y (r := r) rfl (by omega) (ret_ret (b_ok (al_lst (al_cons (tup2_ok c_ok c_ok) (al_cons (tup2_ok c_ok c_ok) (al_cons (tup2_ok c_ok c_ok) (al_cons (tup2_ok c_ok c_ok) (al_cons (tup2_ok c_ok c_ok) (al_cons (tup2_ok c_ok c_ok) al_nil)))))) (by show (6 : Nat) ≤ 1000; decide)) e2 (ix_lst (k := a) k hv)))]
    rfl
  rw [pk_n (r := r) rfl (by omega)]
  by_cases d9 : r = 9
  · obtain ⟨a, S2, e2, l2, h2, f2⟩ := tkC (i := 0) (z := 14) (ρ := [some (.lst 1), some (.int (r : Nat)), some (.lst (S1 ++ [[D.int 1, D.int 2]]).length), none, none]) 14 ((h1.app [[D.int 1, D.int 2]]).app [odds S1.length]) (by omega)
    obtain ⟨v, hv⟩ : ∃ v, (odds S1.length)[a]? = some v := ⟨_, List.getElem?_eq_getElem (by show a < 14; omega)⟩
    have k := f2.at_ (h1.app [[D.int 1, D.int 2]]).len (at_end (S1 ++ [[D.int 1, D.int 2]]) (odds S1.length))
    refine ⟨v, S2, ?_, mv_odds hv, h2.mono (by omega), ((f1.trans (Fr.app _ _)).trans (Fr.app _ _)).trans f2⟩
    have two : ∀ {x y : Int} {ρ : MP.Env} {S : Sto}, eLst (aCons (eC (.int x)) (aCons (eC (.int y)) aNil)) ρ S = .ok (.lst S.length) (S ++ [[D.int x, D.int y]]) := al_lst (al_cons c_ok (al_cons c_ok al_nil)) (by show (2 : Nat) ≤ 1000; decide)
    have t0 : ∀ {ρ : MP.Env} {S : Sto}, eTup aNil ρ S = .ok (.tup []) S := rfl
    have t1 : ∀ {e : Ev} {d : D} {ρ : MP.Env} {S : Sto}, e ρ S = .ok d S → eTup (aCons e aNil) ρ S = .ok (.tup [d]) S := fun h => by
      unfold eTup
      exact el_ok h rfl
    have lst : eLst (aCons (eC .non) (aCons (eC (.str "")) (aCons (eC (.str "1/2")) (aCons (eC (.str "1")) (aCons (eLst (aCons (eC (.int 1)) (aCons (eC (.int 2)) aNil))) (aCons (eTup (aCons (eC (.int 1)) aNil)) (aCons (eTup (aCons (eC (.int 1)) (aCons (eC (.int 2)) (aCons (eC (.int 3)) aNil)))) (aCons (eTup aNil) (aCons (eTup (aCons (eTup (aCons (eC (.int 1)) (aCons (eC (.int 2)) aNil))) aNil)) (aCons (eTup (aCons (eC (.int 1)) (aCons (eC .non) aNil))) (aCons (eTup (aCons (eC (.str "1")) (aCons (eC (.int 2)) aNil))) (aCons (eTup (aCons (eC (.int 1)) (aCons (eC (.str "2")) aNil))) (aCons (eC (.bl true)) (aCons (eC (.bl false)) aNil)))))))))))))) [some (.lst 1), some (.int (r : Nat)), none, none, none] S1 = .ok (.lst (S1 ++ [[D.int 1, D.int 2]]).length) ((S1 ++ [[D.int 1, D.int 2]]) ++ [odds S1.length]) :=
      al_lst (al_cons c_ok (al_cons c_ok (al_cons c_ok (al_cons c_ok (al_cons two (al_cons (t1 c_ok) (al_cons (tup3_ok c_ok c_ok c_ok) (al_cons t0 (al_cons (t1 (tup2_ok c_ok c_ok)) (al_cons (tup2_ok c_ok c_ok) (al_cons (tup2_ok c_ok c_ok) (al_cons (tup2_ok c_ok c_ok) (al_cons c_ok (al_cons c_ok al_nil)))))))))))))) (by show (14 : Nat) ≤ 1000; decide)
    rw [pk_y (r := r) (d := v) (S' := S2) rfl (by omega) ((seq_next (ret_asg lst)).trans (ret_ret (b_ok (var_ok (i := 2) rfl) e2 (ix_lst (k := a) k hv))))]
    rfl
  rw [pk_n (r := r) rfl (by omega)]
  by_cases c12 : r < 12
  · obtain ⟨a, S2, e2, l2, h2, f2⟩ := tkC (i := 0) (z := 13) (ρ := [some (.lst 1), some (.int (r : Nat)), none, none, none]) 13 h1 (by omega)
    refine ⟨.int ((a : Int) - 6), S2, ?_, mv_int (btz (by omega) (by omega) (by decide)), h2.mono (by omega), f1.trans f2⟩
    rw [pl_y (r := r) rfl (by omega) (ret_ret (sub_ok e2 c_ok))]
    rfl
  rw [pl_n (r := r) rfl (by omega)]
  by_cases d12 : r = 12
  · obtain ⟨z, S2, e2, b2, n2, h2, f2⟩ := greatP (i := 0) (ρ := [some (.lst 1), some (.int (r : Nat)), none, none, none]) h1 (by omega)
    refine ⟨.int z, S2, ?_, mv_int (b2.mono (by decide)), h2.mono (by omega), f1.trans f2⟩
    rw [pk_y (r := r) rfl (by omega) (ret_ret e2)]
    rfl
  rw [pk_n (r := r) rfl (by omega)]
  by_cases d13 : r = 13
  · refine ⟨.tup [.int 0, .int 1], S1, ?_, mv_q (btz (by omega) (by omega) (by decide)) (btz (by omega) (by omega) (by decide)), h1.mono (by omega), f1⟩
    rw [pk_y (r := r) rfl (by omega) (ret_ret (tup2_ok c_ok c_ok))]
    rfl
  rw [pk_n (r := r) rfl (by omega)]
  by_cases d14 : r = 14
  · obtain ⟨q, S2, e2, hq, b1, b2, h2, f2⟩ := smallP (i := 0) (ρ := [some (.lst 1), some (.int (r : Nat)), none, none, none]) h1 (by omega)
    refine ⟨.lst S2.length, S2 ++ [[.int q.1, .int q.2]], ?_, mv_lst, (h2.app _).mono (by omega), (f1.trans f2).trans (Fr.app _ _)⟩
    rw [pk_y (r := r) rfl (by omega) (ret_ret (el_ok e2 lof))]
    rfl
  rw [pk_n (r := r) rfl (by omega)]
  obtain ⟨a, S2, e2, l2, h2, f2⟩ := tkC (i := 0) (z := 4) (ρ := [some (.lst 1), some (.int (r : Nat)), none, none, none]) 4 h1 (by omega)
  rw [seq_next (ret_asg (add_ok c_ok e2))]
  simp only [List.set_cons_zero, List.set_cons_succ]
  obtain ⟨q, S3, e3, hq, b1, b2, h3, f3⟩ := smallP (i := 0) (ρ := [some (.lst 1), some (.int (r : Nat)), none, some (.int (1 + (a : Int))), none]) h2 (by omega)
  rw [seq_next (ret_asg e3)]
  simp only [List.set_cons_zero, List.set_cons_succ]
  have ba : Bt (1 + (a : Int)) 60 := btz (by omega) (by omega) (by decide)
  have m1 : CMulA q.1 (1 + (a : Int)) := mulA b1 ba (by decide)
  have m2 : CMulA q.2 (1 + (a : Int)) := mulA b2 ba (by decide)
  refine ⟨.tup [.int (q.1 * (1 + (a : Int))), .int (q.2 * (1 + (a : Int)))], S3, ?_, mv_q ((b1.mul ba).mono (by decide)) ((b2.mul ba).mono (by decide)), h3.mono (by omega), (f1.trans f2).trans f3⟩
  rw [ret_ret (tup2_ok (mul_ok m1 (top_at (v := 4) rfl) (var_ok (i := 3) rfl)) (mul_ok m2 (bot_at (v := 4) rfl) (var_ok (i := 3) rfl)))]
  rfl
end LawM
end
section
set_option Elab.async false
set_option linter.all false
set_option maxRecDepth 100000
set_option maxHeartbeats 1000000
/-! K20: loops; the long quotients; the row. -/
namespace LawM
open PySem PySem.Spec PyProof.Rows L2 MP
theorem forX {src : MP.Env → Sto → Res Src} {ρ : MP.Env} {S S' : Sto} {z : Src} {b : D → MP.Env → Option MP.Env} {body : Es} {F : MP.Flow} (he : src ρ S = .ok z S') (h : forLoop z.st b body z.xs ρ S' = F) : sFor src b body ρ S = F := by
  unfold sFor
  rw [he]
  exact h
theorem seq_for {src : MP.Env → Sto → Res Src} {b : D → MP.Env → Option MP.Env} {body r : Es} {ρ : MP.Env} {S S1 : Sto} {z : Src} (P : MP.Flow → Prop) (hs : src ρ S = .ok z S1) (I : Nat → MP.Env → Sto → Prop) (hst : ∀ i ρ S, I i ρ S → z.st S)
    (step : ∀ i x ρ S, z.xs[i]? = some x → I i ρ S → ∃ ρ1 ρ2 S2, b x ρ = some ρ1 ∧ body ρ1 S = .next ρ2 S2 ∧ I (i + 1) ρ2 S2) (h : I 0 ρ S1) (fin : ∀ ρ' S', I z.xs.length ρ' S' → P (r ρ' S')) : P (sSeq (sFor src b body) r ρ S) := by
  obtain ⟨ρ', S', e1, e2⟩ := for_all I hst z.xs ρ S1 step h
  rw [seq_next (forX hs e1)]
  exact fin ρ' S' e2
theorem src_lst {a : Ev} {ρ : MP.Env} {S S1 : Sto} {l : Nat} {xs : List D} (h : a ρ S = .ok (.lst l) S1) (hl : S1[l]? = some xs) : iSeq a ρ S = .ok ⟨xs, fun S' => S'[l]? = some xs⟩ S1 := by
  unfold iSeq
  rw [h, Res.bind_ok]
  unfold srcOf
  simp only [hl, Option.map_some]
theorem src_rng {a : EvA} {ρ : MP.Env} {S S1 : Sto} {n : Nat} (h : a ρ S = .ok [.int (n : Int)] S1) (hn : n ≤ 1000000) : iRange rng1 a ρ S = .ok ⟨rngL 0 n, fun _ => True⟩ S1 := by
  unfold iRange
  rw [h, Res.bind_ok, rng_ok hn]
theorem cut_lo {xs : List D} {k : Nat} : MP.cutD xs none (some (k : Int)) = xs.take k := by
  unfold MP.cutD
  rw [HT.sIx_nat, HT.sIx_none, List.drop_zero, Nat.sub_zero]
  rcases Nat.le_total k xs.length with h | h
  · rw [Nat.min_eq_left h]
  · rw [Nat.min_eq_right h, List.take_length, List.take_of_length_le h]
theorem cut_hiG {xs : List D} {k : Nat} : MP.cutD xs (some (k : Int)) none = xs.drop k := by
  unfold MP.cutD
  rw [HT.sIx_nat, HT.sIx_none, List.take_of_length_le (by simp)]
  rcases Nat.le_total k xs.length with h | h
  · rw [Nat.min_eq_left h]
  · rw [Nat.min_eq_right h, List.drop_of_length_le (Nat.le_refl _), List.drop_of_length_le h]
theorem sl_lo {i l k : Nat} {ρ : MP.Env} {S : Sto} {xs : List D} {e : Ev} (h : ρ[i]? = some (some (.lst l))) (hl : S[l]? = some xs) (he : e ρ S = .ok (.int (k : Int)) S) : eSl (eVar i) none (some e) ρ S = .ok (.lst S.length) (S ++ [xs.take k]) := by
  unfold eSl
  simp only [var_ok h, Res.bind_ok, he, dSl, hl, Option.map_some, lift_some, cut_lo]
theorem sl_hiG {i l k : Nat} {ρ : MP.Env} {S : Sto} {xs : List D} {e : Ev} (h : ρ[i]? = some (some (.lst l))) (hl : S[l]? = some xs) (he : e ρ S = .ok (.int (k : Int)) S) : eSl (eVar i) (some e) none ρ S = .ok (.lst S.length) (S ++ [xs.drop k]) := by
  unfold eSl
  simp only [var_ok h, Res.bind_ok, he, dSl, hl, Option.map_some, lift_some, cut_hiG]
theorem add_lst {S : Sto} {l m : Nat} {xs ys : List D} (h1 : S[l]? = some xs) (h2 : S[m]? = some ys) (h : xs.length + ys.length ≤ 1000000) : dAdd (.lst l) (.lst m) S = some (.lst S.length, S ++ [xs ++ ys]) := by
  unfold dAdd
  simp only [h1, h2]
  rw [if_pos (show xs.length + ys.length ≤ most from h)]
theorem appG {v l : Nat} {e : Ev} {ρ : MP.Env} {S T : Sto} {acc : List D} {d : D} (hv : ρ[v]? = some (some (.lst l))) (he : e ρ S = .ok d T) (hl : T[l]? = some acc) (ha : acc.length < 1000) : sExpr (eMt mAppend (eVar v) (aCons e aNil)) ρ S = .next ρ (T.set l (acc ++ [d])) := by
  refine expr_ok (d := .non) ?_
  unfold eMt
  rw [var_ok hv, Res.bind_ok]
  simp only [args1' he, Res.bind_ok]
  unfold mAppend
  simp only [hl, Option.bind_some]
  rw [if_pos (show acc.length < most from Nat.lt_of_lt_of_le ha (by decide)), lift_some]
/-- the long quotients' head -/
def HD : Int := 10 ^ 60 * 10 ^ 60 * 10 ^ 60 * 10 ^ 60 * 10 ^ 59
theorem hd_bt : Bt HD 1000 := by unfold Bt HD; decide +kernel
theorem hd_big : 1000000 < HD := by unfold HD; decide +kernel
theorem hd_ok {ρ : MP.Env} {S : Sto} : eB dMul (eB dMul (eB dMul (eB dMul (eB dPow (eC (.int 10)) (eC (.int 60))) (eB dPow (eC (.int 10)) (eC (.int 60)))) (eB dPow (eC (.int 10)) (eC (.int 60)))) (eB dPow (eC (.int 10)) (eC (.int 60)))) (eB dPow (eC (.int 10)) (eC (.int 59))) ρ S = .ok (.int HD) S := by
  have p : eB dPow (eC (.int 10)) (eC (.int 60)) ρ S = .ok (.int (10 ^ 60)) S := b_ok c_ok c_ok (pow10 60 (by decide))
  have q : eB dPow (eC (.int 10)) (eC (.int 59)) ρ S = .ok (.int (10 ^ 59)) S := b_ok c_ok c_ok (pow10 59 (by decide))
  have bx : Bt ((10 : Int) ^ 60) 200 := bt10 60 200 (by decide +kernel)
  have bY : Bt ((10 : Int) ^ 59) 200 := bt10 59 200 (by decide +kernel)
  unfold HD
  generalize (10 : Int) ^ 60 = X at *
  generalize (10 : Int) ^ 59 = Y at *
  exact mul_ok (mulA (((bx.mul bx).mul bx).mul bx) bY (by decide)) (mul_ok (mulA ((bx.mul bx).mul bx) bx (by decide)) (mul_ok (mulA (bx.mul bx) bx (by decide)) (mul_ok (mulA bx bx (by decide)) p p) p) p) q
theorem low_qb {a b : Int} (hb : 0 < b) (h1 : Bt a 1200) (h2 : Bt b 1200) : Qb (low a b) := by
  obtain ⟨b1, b2, b3, _⟩ := low_bt hb h1 h2
  exact ⟨b3, b1, b2⟩
theorem long_ok {n : Nat} {S : Sto} (h : Po n S) (hn : n < 2 ^ 49) : ∃ (q r : Int × Int) (l : Nat) (S' : Sto), rf__law_long [.lst 1] S = .ok (.lst l) S' ∧ S'[l]? = some [dq q, dq r] ∧ Qb q ∧ Qb r ∧ 2 ≤ l ∧ Po (n + 4) S' ∧ Fr S S' := by
  unfold rf__law_long runDef ev__law_long
  rw [show begins 4 [.lst 1] = [some (.lst 1), none, none, none] from rfl]
  rw [seq_next (ret_asg hd_ok)]
  simp only [List.set_cons_zero, List.set_cons_succ]
  have hb := hd_bt
  have hg := hd_big
  generalize HD = X at *
  obtain ⟨a, S1, e1, l1, h1, f1⟩ := tkC (i := 0) (z := 100000) (ρ := [some (.lst 1), some (.int X), none, none]) 100000 h (by omega)
  obtain ⟨b, S2, e2, l2, h2, f2⟩ := tkC (i := 0) (z := 100000) (ρ := [some (.lst 1), some (.int X), none, none]) 100000 h1 (by omega)
  have ba : Bt (a : Int) 1000 := btz (by omega) (by omega) (by decide)
  have bb : Bt (b : Int) 1000 := btz (by omega) (by omega) (by decide)
  have b9 : Bt (9 : Int) 30 := btz (by omega) (by omega) (by decide)
  have b7 : Bt (7 : Int) 30 := btz (by omega) (by omega) (by decide)
  have p1 : (0 : Int) < 9 * X - 1 - (b : Int) := by omega
  have big : ∀ {x : Int}, 0 < x → x < 10 * X → Bt x 1200 := fun {x} h0 h1 => by
    have hh := hb
    unfold Bt at hh ⊢
    have e : (2 : Nat) ^ 1200 = 2 ^ 200 * 2 ^ 1000 := by rw [← Nat.pow_add]
    have e2 : (16 : Nat) * 2 ^ 1000 ≤ 2 ^ 200 * 2 ^ 1000 := Nat.mul_le_mul_right _ (by decide +kernel)
    generalize (2 : Nat) ^ 1000 = Y at *
    omega
  have q1 : Qb (low (X + (a : Int)) (9 * X - 1 - (b : Int))) := low_qb p1 (big (by omega) (by omega)) (big p1 (by omega))
  rw [seq_next (ret_asg ((call2 (add_ok (var_ok (i := 1) rfl) e1) (sub_ok (sub_ok (mul_ok (mulA b9 hb (by decide)) c_ok (var_ok (i := 1) rfl)) c_ok) e2)).trans (lawlow_ok p1 ((big p1 (by omega)).mono (by decide)))))]
  simp only [List.set_cons_zero, List.set_cons_succ]
  obtain ⟨c, S3, e3, l3, h3, f3⟩ := tkC (i := 0) (z := 100000) (ρ := [some (.lst 1), some (.int X), some (dq (low (X + (a : Int)) (9 * X - 1 - (b : Int)))), none]) 100000 h2 (by omega)
  obtain ⟨d, S4, e4, l4, h4, f4⟩ := tkC (i := 0) (z := 100000) (ρ := [some (.lst 1), some (.int X), some (dq (low (X + (a : Int)) (9 * X - 1 - (b : Int)))), none]) 100000 h3 (by omega)
  have p2 : (0 : Int) < 7 * X + 2 + (d : Int) := by omega
  have q2 : Qb (low ((c : Int) - X) (7 * X + 2 + (d : Int))) := low_qb p2 (by
    have := Bt.neg (big (x := -((c : Int) - X)) (by omega) (by omega))
    rwa [Int.neg_neg] at this) (big p2 (by omega))
  rw [seq_next (ret_asg ((call2 (sub_ok e3 (var_ok (i := 1) rfl)) (add_ok (add_ok (mul_ok (mulA b7 hb (by decide)) c_ok (var_ok (i := 1) rfl)) c_ok) e4)).trans (lawlow_ok p2 ((big p2 (by omega)).mono (by decide)))))]
  simp only [List.set_cons_zero, List.set_cons_succ]
  refine ⟨_, _, S4.length, _, congrArg flowRes (ret_ret (al_lst (al_cons (var_ok (i := 2) rfl) (al_cons (var_ok (i := 3) rfl) al_nil)) (by show (2 : Nat) ≤ 1000; decide))), at_end _ _, q1, q2, h4.len, (h4.app _).mono (by omega), (((f1.trans f2).trans f3).trans f4).trans (Fr.app _ _)⟩
theorem row_ok {n : Nat} {S : Sto} (h : Po n S) (hn : n < 2 ^ 48) : ∃ (xs : List D) (l : Nat) (S' : Sto), rf__law_row [.lst 1] S = .ok (.lst l) S' ∧ S'[l]? = some xs ∧ xs.length ≤ 40 ∧ (∀ x ∈ xs, MV x) ∧ 2 ≤ l ∧ Po (n + 100) S' ∧ Fr S S' := by
  unfold rf__law_row runDef ev__law_row
  rw [show begins 6 [.lst 1] = [some (.lst 1), none, none, none, none, none] from rfl]
  obtain ⟨m, S1, e1, l1, h1, f1⟩ := tkC (i := 0) (z := 6) (ρ := [some (.lst 1), none, none, none, none, none]) 6 h (by omega)
  rw [seq_next (ret_asg e1)]
  simp only [List.set_cons_zero, List.set_cons_succ]
  obtain ⟨t, S2, e2, l2, h2, f2⟩ := tkC (i := 0) (z := 8) (ρ := [some (.lst 1), some (.int (m : Nat)), none, none, none, none]) 8 h1 (by omega)
  have f12 := f1.trans f2
  have te := test_ok (eq_ok e2 (c_ok (d := .int 7)))
  by_cases c : (t : Int) = 7
  · rw [decide_eq_true c] at te
    obtain ⟨a, S3, e3, l3, h3, f3⟩ := tkC (i := 0) (z := 9) (ρ := [some (.lst 1), some (.int (m : Nat)), none, none, none, none]) 9 h2 (by omega)
    have one : eLst (aCons (eTup (aCons (eB dAdd (eC (.int 1)) (eCall 2 rf__law_take (aCons (eVar 0) (aCons (eC (.int 9)) aNil)))) (aCons (eC (.int 1)) aNil))) aNil) [some (.lst 1), some (.int (m : Nat)), none, none, none, none] S2 = .ok (.lst S3.length) (S3 ++ [[.tup [.int (1 + (a : Int)), .int 1]]]) := al_lst (al_cons (tup2_ok (add_ok c_ok e3) c_ok) al_nil) (by show (1 : Nat) ≤ 1000; decide)
    have rep := b_ok (g := dMul) one (c_ok (d := .int 40)) (rep_one (n := 40) (at_end S3 [.tup [.int (1 + (a : Int)), .int 1]]) (by decide))
    have mvx : MV (.tup [.int (1 + (a : Int)), .int 1]) := mv_q (btz (by omega) (by omega) (by decide)) (btz (by omega) (by omega) (by decide))
    generalize D.tup [.int (1 + (a : Int)), .int 1] = w at rep mvx
    have k3 : 2 ≤ (S3 ++ [[w]]).length := by
      have := h3.len
      rw [List.length_append]
      omega
    have hx : ((S3 ++ [[w]]) ++ [List.replicate 40 w])[(S3 ++ [[w]]).length]? = some (List.replicate 40 w) := at_end _ _
    have h3' : Po (n + 3) ((S3 ++ [[w]]) ++ [List.replicate 40 w]) := (h3.app _).app _
    have f3' : Fr S ((S3 ++ [[w]]) ++ [List.replicate 40 w]) := ((f12.trans f3).trans (Fr.app _ _)).trans (Fr.app _ _)
    generalize (S3 ++ [[w]]).length = l at rep k3 hx
    generalize (S3 ++ [[w]]) ++ [List.replicate 40 w] = T at rep hx h3' f3'
    obtain ⟨s, T1, e4, l4, h4, f4⟩ := tkC (i := 0) (z := 40) (ρ := [some (.lst 1), some (.int (m : Nat)), some (.lst l), none, none, none]) 40 h3' (by omega)
    have y1 := f4.at_ k3 hx
    have c1 := sl_lo (i := 2) (k := s) (e := eVar 3) (ρ := [some (.lst 1), some (.int (m : Nat)), some (.lst l), some (.int (s : Nat)), none, none]) rfl y1 (var_ok rfl)
    obtain ⟨v, T2, e5, hv, h5, f5⟩ := value_ok (h4.app [(List.replicate 40 w).take s]) (by omega)
    have c2 : eLst (aCons (eCall 1 rf__law_value (aCons (eVar 0) aNil)) aNil) [some (.lst 1), some (.int (m : Nat)), some (.lst l), some (.int (s : Nat)), none, none] (T1 ++ [(List.replicate 40 w).take s]) = .ok (.lst T2.length) (T2 ++ [[v]]) := al_lst (al_cons ((call1 (var_ok (i := 0) (d := .lst 1) rfl)).trans e5) al_nil) (by show (1 : Nat) ≤ 1000; decide)
    have y2 := f5.at_ h4.len (at_end T1 ((List.replicate 40 w).take s))
    have c3 := b_ok (g := dAdd) c1 c2 (add_lst (app_at y2 [[v]]) (at_end _ _) (by rw [List.length_take, List.length_replicate]; simp only [List.length_cons, List.length_nil]; omega))
    have y3 := app_at (app_at (f5.at_ k3 (app_at y1 _)) [[v]]) [(List.replicate 40 w).take s ++ [v]]
    have c4 := sl_hiG (i := 2) (k := s + 1) (e := eB dAdd (eVar 3) (eC (.int 1))) (ρ := [some (.lst 1), some (.int (m : Nat)), some (.lst l), some (.int (s : Nat)), none, none]) rfl y3 (add_ok (x := (s : Nat)) (y := 1) (var_ok rfl) c_ok)
    have c5 := b_ok (g := dAdd) c3 c4 (add_lst (app_at (at_end _ _) _) (at_end _ _) (by simp only [List.length_append, List.length_take, List.length_drop, List.length_replicate, List.length_cons, List.length_nil]; omega))
    have hp := ((((h5.app [[v]]).app [(List.replicate 40 w).take s ++ [v]]).app [(List.replicate 40 w).drop (s + 1)]).app [(List.replicate 40 w).take s ++ [v] ++ (List.replicate 40 w).drop (s + 1)]).mono (m := n + 100) (by omega)
    refine ⟨_, _, _, ?_, at_end _ _, ?_, ?_, ?_, hp, ((((((f3'.trans f4).trans (Fr.app _ _)).trans f5).trans (Fr.app _ _)).trans (Fr.app _ _)).trans (Fr.app _ _)).trans (Fr.app _ _)⟩
    · rw [seq_ret ((if_t te).trans ((seq_next (ret_asg rep)).trans ((seq_next (ret_asg e4)).trans (ret_ret c5))))]
      rfl
    · simp only [List.length_append, List.length_take, List.length_drop, List.length_replicate, List.length_cons, List.length_nil]
      omega
    · intro x hx
      rw [List.mem_append, List.mem_append] at hx
      rcases hx with (hx | hx) | hx
      · rw [List.eq_of_mem_replicate (List.mem_of_mem_take hx)]
        exact mvx
      · rw [List.mem_singleton.mp hx]
        exact hv
      · rw [List.eq_of_mem_replicate (List.mem_of_mem_drop hx)]
        exact mvx
    · have := h5.len
      simp only [List.length_append]
      omega
  · rw [decide_eq_false c] at te
    rw [seq_next (if_s te)]
    have nl : eLst aNil [some (.lst 1), some (.int (m : Nat)), none, none, none, none] S2 = .ok (.lst S2.length) (S2 ++ [[]]) := al_lst al_nil (by show (0 : Nat) ≤ 1000; decide)
    rw [seq_next (ret_asg nl)]
    simp only [List.set_cons_zero, List.set_cons_succ]
    refine seq_for (P := fun F => ∃ (xs : List D) (l : Nat) (S' : Sto), flowRes F = .ok (.lst l) S' ∧ S'[l]? = some xs ∧ xs.length ≤ 40 ∧ (∀ x ∈ xs, MV x) ∧ 2 ≤ l ∧ Po (n + 100) S' ∧ Fr S S') (src_rng (n := m) (args1' (var_ok rfl)) (by omega))
      (fun i ρ T => ∃ a4 a5 acc, ρ = [some (.lst 1), some (.int (m : Nat)), some (.lst S2.length), none, a4, a5] ∧ T[S2.length]? = some acc ∧ acc.length = i ∧ (∀ x ∈ acc, MV x) ∧ Po (n + 2 + 9 * i) T ∧ Fr S T) (fun _ _ _ _ => trivial) ?_ ⟨none, none, [], rfl, at_end _ _, rfl, fun x hx => (by cases hx), (h2.app _).mono (by omega), f12.trans (Fr.app _ _)⟩ ?_
    · rintro i x ρ T hx ⟨a4, a5, acc, rfl, ha, hl, hm, hp, hf⟩
      obtain ⟨hi, rfl⟩ := rng_at hx
      obtain ⟨p, T1, e3, l3, h3, f3⟩ := tkC (i := 0) (z := 8) (ρ := [some (.lst 1), some (.int (m : Nat)), some (.lst S2.length), none, some (.int (i : Int)), a5]) 8 hp (by omega)
      refine ⟨[some (.lst 1), some (.int (m : Nat)), some (.lst S2.length), none, some (.int (i : Int)), a5], ?_⟩
      have fin : ∀ (d : D) (U : Sto), MV d → Po (n + 2 + 9 * (i + 1)) U → Fr T1 U → (∃ (acc2 : List D), acc2.length = i + 1 ∧ (∀ x ∈ acc2, MV x) ∧ (U.set S2.length (acc ++ [d]))[S2.length]? = some acc2) ∧ Po (n + 2 + 9 * (i + 1)) (U.set S2.length (acc ++ [d])) ∧ Fr S (U.set S2.length (acc ++ [d])) := fun d U md pu fu => by
        have hU := fu.at_ h2.len (f3.at_ h2.len ha)
        refine ⟨⟨acc ++ [d], by simp [hl], ?_, List.getElem?_set_self (List.getElem?_eq_some_iff.mp hU).1⟩, pu.set h2.len, ((hf.trans f3).trans fu).set f12.1⟩
        intro x hx
        rw [List.mem_append] at hx
        rcases hx with hx | hx
        · exact hm x hx
        · rw [List.mem_singleton.mp hx]
          exact md
      have go : ∀ (e : Ev) (d : D) (U : Sto), e [some (.lst 1), some (.int (m : Nat)), some (.lst S2.length), none, some (.int (i : Int)), some (.int (p : Nat))] T1 = .ok d U → MV d → Po (n + 2 + 9 * (i + 1)) U → Fr T1 U → ∃ ρ2 S', sExpr (eMt mAppend (eVar 2) (aCons e aNil)) [some (.lst 1), some (.int (m : Nat)), some (.lst S2.length), none, some (.int (i : Int)), some (.int (p : Nat))] T1 = .next ρ2 S' ∧ ∃ a4 a5 acc, ρ2 = [some (.lst 1), some (.int (m : Nat)), some (.lst S2.length), none, a4, a5] ∧ S'[S2.length]? = some acc ∧ acc.length = i + 1 ∧ (∀ x ∈ acc, MV x) ∧ Po (n + 2 + 9 * (i + 1)) S' ∧ Fr S S' := fun e d U he md pu fu => by
        obtain ⟨⟨acc2, r1, r2, r3⟩, r4, r5⟩ := fin d U md pu fu
        exact ⟨_, _, appG rfl he (fu.at_ h2.len (f3.at_ h2.len ha)) (by omega), _, _, acc2, rfl, r3, r1, r2, r4, r5⟩
      have ex : ∀ (b : Es) (F : MP.Flow), b [some (.lst 1), some (.int (m : Nat)), some (.lst S2.length), none, some (.int (i : Int)), some (.int (p : Nat))] T1 = F → sSeq (sAsg 5 (eCall 2 rf__law_take (aCons (eVar 0) (aCons (eC (.int 8)) aNil)))) b [some (.lst 1), some (.int (m : Nat)), some (.lst S2.length), none, some (.int (i : Int)), a5] T = F := fun b F h => by
        rw [seq_next (ret_asg e3)]
        exact h
      have t7 := test_ok (eq_ok (var_ok (i := 5) (d := .int (p : Nat)) (ρ := [some (.lst 1), some (.int (m : Nat)), some (.lst S2.length), none, some (.int (i : Int)), some (.int (p : Nat))]) (S := T1) rfl) (c_ok (d := .int 7)))
      have t6 := test_ok (eq_ok (var_ok (i := 5) (d := .int (p : Nat)) (ρ := [some (.lst 1), some (.int (m : Nat)), some (.lst S2.length), none, some (.int (i : Int)), some (.int (p : Nat))]) (S := T1) rfl) (c_ok (d := .int 6)))
      by_cases c7 : (p : Int) = 7
      · rw [decide_eq_true c7] at t7
        obtain ⟨v, U, e4, hv, h4, f4⟩ := value_ok h3 (by omega)
        obtain ⟨ρ2, S', g1, g2⟩ := go (eCall 1 rf__law_value (aCons (eVar 0) aNil)) v U ((call1 (var_ok (i := 0) (d := .lst 1) rfl)).trans e4) hv (h4.mono (by omega)) f4
        exact ⟨ρ2, S', rfl, ex _ _ ((if_t t7).trans g1), g2⟩
      rw [decide_eq_false c7] at t7
      by_cases c6 : (p : Int) = 6
      · rw [decide_eq_true c6] at t6
        obtain ⟨ρ2, S', g1, g2⟩ := go (eTup (aCons (eC (.int 0)) (aCons (eC (.int 1)) aNil))) (.tup [.int 0, .int 1]) T1 (tup2_ok c_ok c_ok) (mv_q (btz (by omega) (by omega) (by decide)) (btz (by omega) (by omega) (by decide))) (h3.mono (by omega)) (Fr.refl _)
        exact ⟨ρ2, S', rfl, ex _ _ ((if_f t7).trans ((if_t t6).trans g1)), g2⟩
      rw [decide_eq_false c6] at t6
      obtain ⟨a, U1, e4, l4, h4, f4⟩ := tkC (i := 0) (z := 12) (ρ := [some (.lst 1), some (.int (m : Nat)), some (.lst S2.length), none, some (.int (i : Int)), some (.int (p : Nat))]) 12 h3 (by omega)
      obtain ⟨b, U2, e5, l5, h5, f5⟩ := tkC (i := 0) (z := 7) (ρ := [some (.lst 1), some (.int (m : Nat)), some (.lst S2.length), none, some (.int (i : Int)), some (.int (p : Nat))]) 7 h4 (by omega)
      have hp0 : (0 : Int) < 1 + (b : Int) := by omega
      have bb : Bt (1 + (b : Int)) 1200 := btz (by omega) (by omega) (by decide)
      have q := low_qb (a := 1 + (a : Int)) hp0 (btz (by omega) (by omega) (by decide)) bb
      obtain ⟨ρ2, S', g1, g2⟩ := go (eCall 2 rf__law_low (aCons (eB dAdd (eC (.int 1)) (eCall 2 rf__law_take (aCons (eVar 0) (aCons (eC (.int 12)) aNil)))) (aCons (eB dAdd (eC (.int 1)) (eCall 2 rf__law_take (aCons (eVar 0) (aCons (eC (.int 7)) aNil)))) aNil))) (dq (low (1 + (a : Int)) (1 + (b : Int)))) U2 ((call2 (add_ok c_ok e4) (add_ok c_ok e5)).trans (lawlow_ok hp0 (bb.mono (by decide)))) (mv_q q.b1 q.b2) (h5.mono (by omega)) (f4.trans f5)
      exact ⟨ρ2, S', rfl, ex _ _ ((if_f t7).trans ((if_f t6).trans g1)), g2⟩
    · rintro ρ' S' ⟨a4, a5, acc, rfl, ha, hl, hm, hp, hf⟩
      rw [rngL_length] at hl hp
      exact ⟨acc, S2.length, S', congrArg flowRes (ret_ret (var_ok (i := 2) rfl)), ha, by omega, hm, h2.len, hp.mono (by omega), hf⟩
end LawM
end
section
set_option Elab.async false
set_option linter.all false
set_option maxRecDepth 100000
set_option maxHeartbeats 1000000
/-! K21: errors as values, their fields and families. -/
namespace LawM
open PySem PySem.Spec PyProof.Rows L2 MP
theorem toPy_ints (S : Sto) (n : Nat) : ∀ c : List Int, toPyL (toPy S (n + 1)) (c.map D.int) = some (c.map PyData.int)
  | [] => rfl
  | x :: c => by
    rw [List.map_cons, toPyL, toPy_ints S n c]
    rfl
theorem toPy_li (S : Sto) (n : Nat) {l : Nat} {c : List Int} (h : S[l]? = some (c.map D.int)) : toPy S (n + 2) (.lst l) = some (.list (c.map PyData.int)) := by
  unfold toPy
  simp only [h, Option.bind_some, toPy_ints S n c, Option.map_some]
theorem eqv_ints : ∀ c d : List Int, PyData.eqvAll (c.map PyData.int) (d.map PyData.int) = decide (c = d)
  | [], [] => by simp [PyData.eqvAll]
  | [], _ :: _ => by simp [PyData.eqvAll]
  | _ :: _, [] => by simp [PyData.eqvAll]
  | x :: c, y :: d => by
    rw [List.map_cons, List.map_cons, PyData.eqvAll, eqv_ints c d]
    by_cases h : x = y <;> by_cases k : c = d <;> simp [PyData.eqv, h, k]
theorem dNe_li {l : Nat} {c : List Int} {S : Sto} (h : S[l]? = some (c.map D.int)) : dNe (.lst l) (.lst l) S = some (.bl false, S) := by
  unfold dNe
  rw [show deep = 38 + 2 from rfl]
  simp only [toPy_li S 38 h]
  rw [PyData.eqv, eqv_ints, decide_eq_true rfl]
  rfl
/-- a list of two whole numbers -/
def L2i (S : Sto) (l : Nat) : Prop := ∃ c : List Int, S[l]? = some (c.map D.int)
theorem L2i.app {S : Sto} {l : Nat} (h : L2i S l) (G : Sto) : L2i (S ++ G) l := by
  obtain ⟨c, h⟩ := h
  exact ⟨c, app_at h G⟩
def hasF (tab : List (Str × List Str)) (m f : Str) : Bool := match fldsOf tab m with
  | some fs => decide (f ∈ fs)
  | none => false
section
variable {tab : List (Str × List Str)} {f g m : Str} {x y : D} {l v u : Nat} {ρ : MP.Env} {S : Sto} {ns : List Str} {ds : List D}
theorem xv_ok {d : D} (h : ρ[v]? = some (some (.err m ns ds))) (hf : hasF tab m f = true) (e : fieldOf f ns ds = some d) : eXv tab f (eVar v) ρ S = .ok d S := by
  unfold eXv
  rw [var_ok h, Res.bind_ok]
  unfold hasF at hf
  cases q : fldsOf tab m with
  | none => rw [q] at hf; cases hf
  | some fs =>
    rw [q] at hf
    simp only [q]
    rw [if_pos (by simpa using hf)]
    simp only [e]
/-- the only field -/
theorem nf1 (h : ρ[v]? = some (some (.err m [f] [.lst l]))) (hu : ρ[u]? = some (some (.lst l))) (hl : L2i S l) (hf : hasF tab m f = true) : eTest (eB dNe (eXv tab f (eVar v)) (eVar u)) ρ S = .ok false S := by
  obtain ⟨c, hl⟩ := hl
  refine test_ok (b_ok (xv_ok h hf ?_) (var_ok hu) (dNe_li hl))
  unfold fieldOf
  rw [if_pos (by simp)]
/-- the second of two -/
theorem nfA (h : ρ[v]? = some (some (.err m [f, g] [.lst l, y]))) (hu : ρ[u]? = some (some (.lst l))) (hl : L2i S l) (hf : hasF tab m f = true) : eTest (eB dNe (eXv tab f (eVar v)) (eVar u)) ρ S = .ok false S := by
  obtain ⟨c, hl⟩ := hl
  refine test_ok (b_ok (xv_ok h hf ?_) (var_ok hu) (dNe_li hl))
  unfold fieldOf
  rw [if_pos (by simp)]
/-- the first of two -/
theorem nfB (h : ρ[v]? = some (some (.err m [g, f] [x, .lst l]))) (hu : ρ[u]? = some (some (.lst l))) (hl : L2i S l) (hf : (hasF tab m f && !(f == g)) = true) : eTest (eB dNe (eXv tab f (eVar v)) (eVar u)) ρ S = .ok false S := by
  obtain ⟨c, hl⟩ := hl
  rw [Bool.and_eq_true] at hf
  refine test_ok (b_ok (xv_ok h hf.1 ?_) (var_ok hu) (dNe_li hl))
  have h2 : (f == g) = false := by simpa using hf.2
  unfold fieldOf
  rw [if_neg (by rw [h2]; decide)]
  unfold fieldOf
  rw [if_pos (by simp)]
theorem isV {t : List (Str × Bool)} {b : Bool} (h : ρ[v]? = some (some (.err m ns ds))) (e : decL t m = some b) : eU (dIsV t) (eVar v) ρ S = .ok (.bl b) S := by
  refine u_ok (var_ok h) ?_
  unfold dIsV
  simp only [e, Option.map_some]
theorem vT {t : List (Str × Bool)} (h : ρ[v]? = some (some (.err m ns ds))) (e : decL t m = some true) : eNotT (eTest (eU (dIsV t) (eVar v))) ρ S = .ok false S := not_b (k := true) (test_ok (isV h e))
theorem vF {t : List (Str × Bool)} (h : ρ[v]? = some (some (.err m ns ds))) (e : decL t m = some false) : eTest (eU (dIsV t) (eVar v)) ρ S = .ok false S := test_ok (isV h e)
end
theorem err_ok {x : Str} {fs : List Str} {n m : Nat} {pm : List D → List D → List D} {ra rk : EvA} {ρ : MP.Env} {S S1 S2 : Sto} {ds ks : List D} (h1 : ra ρ S = .ok ds S1) (h2 : rk ρ S1 = .ok ks S2) (h3 : ds.length = n) (h4 : ks.length = m) (h5 : (pm ds ks).length = fs.length) (h6 : n ≤ 1000) : eErr x fs n m pm ra rk ρ S = .ok (.err x fs.reverse (pm ds ks).reverse) S2 := by
  unfold eErr
  rw [h1, Res.bind_ok, h2, Res.bind_ok, if_pos ⟨⟨h3, h4⟩, h5, h6⟩]
section
variable {x f g : Str} {a b : Ev} {ρ : MP.Env} {S : Sto} {p q : D}
theorem er_pp (h1 : a ρ S = .ok p S) (h2 : b ρ S = .ok q S) : eErr x [f, g] 2 0 pmA (aCons a (aCons b aNil)) aNil ρ S = .ok (.err x [g, f] [q, p]) S := err_ok (al_cons h1 (al_cons h2 al_nil)) al_nil rfl rfl rfl (by decide)
theorem er_pk (h1 : a ρ S = .ok p S) (h2 : b ρ S = .ok q S) : eErr x [f, g] 1 1 pmA (aCons a aNil) (aCons b aNil) ρ S = .ok (.err x [g, f] [q, p]) S := err_ok (al_cons h1 al_nil) (al_cons h2 al_nil) rfl rfl rfl (by decide)
theorem er_kk (h1 : a ρ S = .ok p S) (h2 : b ρ S = .ok q S) : eErr x [f, g] 0 2 pm10 aNil (aCons b (aCons a aNil)) ρ S = .ok (.err x [g, f] [q, p]) S := err_ok al_nil (al_cons h2 (al_cons h1 al_nil)) rfl rfl rfl (by decide)
theorem er_p (h1 : a ρ S = .ok p S) : eErr x [f] 1 0 pmA (aCons a aNil) aNil ρ S = .ok (.err x [f] [p]) S := err_ok (al_cons h1 al_nil) al_nil rfl rfl rfl (by decide)
theorem er_k (h1 : a ρ S = .ok p S) : eErr x [f] 0 1 pm01 aNil (aCons a aNil) ρ S = .ok (.err x [f] [p]) S := err_ok al_nil (al_cons h1 al_nil) rfl rfl rfl (by decide)
end
theorem l1i {a : Int} {e : Ev} {ρ : MP.Env} {S : Sto} (h : e ρ S = .ok (.int a) S) : eLst (aCons e aNil) ρ S = .ok (.lst S.length) (S ++ [[.int a]]) := al_lst (al_cons h al_nil) (by show (1 : Nat) ≤ 1000; decide)
theorem andT {a b : Ev} {ρ : MP.Env} {S S1 S2 : Sto} (h : a ρ S = .ok (.bl true) S1) (k : b ρ S1 = .ok (.bl true) S2) : eAnd a b ρ S = .ok (.bl true) S2 := eAnd_ok h k
theorem notF {a : Ev} {ρ : MP.Env} {S : Sto} (h : a ρ S = .ok (.bl false) S) : eNot a ρ S = .ok (.bl true) S := by
  unfold eNot
  rw [h, Res.bind_ok]
  rfl
/-- two lists of one, then one more in each -/
theorem grow2 {S : Sto} {a b c d : Int} {G : Sto} {e1 e2 : Ev} {ρ : MP.Env} {u v : Nat} {r : Es} (hu : ρ[u]? = some (some (.lst S.length))) (hv : ρ[v]? = some (some (.lst (S.length + 1)))) (h1 : ∀ T, e1 ρ T = .ok (.int c) T) (h2 : ∀ T, e2 ρ T = .ok (.int d) T) :
    sSeq (sExpr (eMt mAppend (eVar u) (aCons e1 aNil))) (sSeq (sExpr (eMt mAppend (eVar v) (aCons e2 aNil))) r) ρ (S ++ ([.int a] :: [.int b] :: G)) = r ρ (S ++ ([.int a, .int c] :: [.int b, .int d] :: G)) := by
  have a1 : (S ++ ([.int a] :: [.int b] :: G))[S.length]? = some [.int a] := by
    rw [List.getElem?_append_right (Nat.le_refl _), Nat.sub_self]
    rfl
  have s1 : (S ++ ([.int a] :: [.int b] :: G)).set S.length ([.int a] ++ [.int c]) = S ++ ([.int a, .int c] :: [.int b] :: G) := by
    rw [List.set_append_right _ _ (Nat.le_refl _), Nat.sub_self]
    rfl
  have a2 : (S ++ ([.int a, .int c] :: [.int b] :: G))[S.length + 1]? = some [.int b] := by
    rw [List.getElem?_append_right (by omega), Nat.add_sub_cancel_left]
    rfl
  have s2 : (S ++ ([.int a, .int c] :: [.int b] :: G)).set (S.length + 1) ([.int b] ++ [.int d]) = S ++ ([.int a, .int c] :: [.int b, .int d] :: G) := by
    rw [List.set_append_right _ _ (by omega), Nat.add_sub_cancel_left]
    rfl
  have q1 := appG (v := u) hu (h1 _) a1 (by show (1 : Nat) < 1000; decide)
  rw [s1] at q1
  have q2 := appG (v := v) hv (h2 _) a2 (by show (1 : Nat) < 1000; decide)
  rw [s2] at q2
  rw [seq_next q1, seq_next q2]
theorem g1 {S : Sto} {a b c d : Int} {G : Sto} : L2i (S ++ ([.int a, .int c] :: [.int b, .int d] :: G)) S.length := ⟨[a, c], by
  rw [List.getElem?_append_right (Nat.le_refl _), Nat.sub_self]
  rfl⟩
theorem g2 {S : Sto} {a b c d : Int} {G : Sto} : L2i (S ++ ([.int a, .int c] :: [.int b, .int d] :: G)) (S.length + 1) := ⟨[b, d], by
  rw [List.getElem?_append_right (by omega), Nat.add_sub_cancel_left]
  rfl⟩
end LawM
end
section
set_option Elab.async false
set_option linter.all false
set_option maxRecDepth 100000
set_option maxHeartbeats 1000000
/-! K22: the errors of papers and of places. -/
namespace LawM
open PySem PySem.Spec PyProof.Rows L2 MP
theorem for_const {src : MP.Env → Sto → Res Src} {i : Nat} {body r : Es} {ρ : MP.Env} {S S1 : Sto} {z : Src} (P : MP.Flow → Prop) (hs : src ρ S = .ok z S1) (hz : z.st S1) (hi : i < ρ.length) (step : ∀ x ∈ z.xs, body (ρ.set i (some x)) S1 = .next (ρ.set i (some x)) S1) (fin : ∀ o, P (r (ρ.set i o) S1)) : P (sSeq (sFor src (bName i) body) r ρ S) := by
  have hr : ρ = ρ.set i (ρ[i]) := by simp
  refine seq_for (P := P) hs (fun _ ρ' S' => S' = S1 ∧ ∃ o, ρ' = ρ.set i o) (fun _ _ _ h => h.1 ▸ hz) ?_ ⟨rfl, ρ[i], hr⟩ ?_
  · rintro k x ρ' S' hx ⟨rfl, o, rfl⟩
    refine ⟨ρ.set i (some x), _, _, ?_, step x (List.mem_of_getElem? hx), rfl, _, rfl⟩
    unfold bName
    simp [hi]
  · rintro ρ' S' ⟨rfl, o, rfl⟩
    exact fin o
theorem papers_ok (a b : Int) (S : Sto) : ∃ S', rf__law_papers [.int a, .int b] S = .ok (.bl true) S' := by
  unfold rf__law_papers runDef ev__law_papers
  rw [show begins 8 [D.int a, .int b] = [some (.int a), some (.int b), none, none, none, none, none, none] from rfl]
  rw [seq_next (ret_asg (l1i (var_ok (i := 0) rfl)))]
  simp only [List.set_cons_zero, List.set_cons_succ]
  rw [seq_next (ret_asg (l1i (var_ok (i := 1) rfl)))]
  simp only [List.set_cons_zero, List.set_cons_succ, List.length_append, List.length_cons, List.length_nil, Nat.zero_add, List.append_assoc, List.cons_append, List.nil_append]
  rw [seq_next (ret_asg (al_lst (al_cons (er_pp (var_ok (i := 2) rfl) (var_ok (i := 3) rfl)) (al_cons (er_kk (var_ok (i := 2) rfl) (var_ok (i := 3) rfl)) al_nil)) (by show (2 : Nat) ≤ 1000; decide)))]
  simp only [List.set_cons_zero, List.set_cons_succ, List.length_append, List.length_cons, List.length_nil, Nat.zero_add, List.append_assoc, List.cons_append, List.nil_append]
  rw [seq_next (ret_asg (al_lst (al_cons (er_pp (var_ok (i := 2) rfl) (var_ok (i := 3) rfl)) (al_cons (er_kk (var_ok (i := 2) rfl) (var_ok (i := 3) rfl)) al_nil)) (by show (2 : Nat) ≤ 1000; decide)))]
  simp only [List.set_cons_zero, List.set_cons_succ, List.length_append, List.length_cons, List.length_nil, Nat.zero_add, List.append_assoc, List.cons_append, List.nil_append]
  rw [seq_next (ret_asg (er_pk (var_ok (i := 2) rfl) (var_ok (i := 3) rfl)))]
  simp only [List.set_cons_zero, List.set_cons_succ]
  rw [grow2 (u := 2) (v := 3) rfl rfl (fun T => c_ok) (fun T => var_ok (i := 1) rfl)]
  have k1 := g1 (S := S) (a := a) (b := b) (c := 4) (d := b) (G := [[.err "InvalidPaper" ["at", "word"] [.lst (S.length + 1), .lst S.length], .err "InvalidPaper" ["at", "word"] [.lst (S.length + 1), .lst S.length]], [.err "NotUsable" ["at", "word"] [.lst (S.length + 1), .lst S.length], .err "NotUsable" ["at", "word"] [.lst (S.length + 1), .lst S.length]]])
  have k2 := g2 (S := S) (a := a) (b := b) (c := 4) (d := b) (G := [[.err "InvalidPaper" ["at", "word"] [.lst (S.length + 1), .lst S.length], .err "InvalidPaper" ["at", "word"] [.lst (S.length + 1), .lst S.length]], [.err "NotUsable" ["at", "word"] [.lst (S.length + 1), .lst S.length], .err "NotUsable" ["at", "word"] [.lst (S.length + 1), .lst S.length]]])
  have m1 : (S ++ ([.int a, .int 4] :: [.int b, .int b] :: [[.err "InvalidPaper" ["at", "word"] [.lst (S.length + 1), .lst S.length], .err "InvalidPaper" ["at", "word"] [.lst (S.length + 1), .lst S.length]], [.err "NotUsable" ["at", "word"] [.lst (S.length + 1), .lst S.length], .err "NotUsable" ["at", "word"] [.lst (S.length + 1), .lst S.length]]]))[S.length + 2]? = some [.err "InvalidPaper" ["at", "word"] [.lst (S.length + 1), .lst S.length], .err "InvalidPaper" ["at", "word"] [.lst (S.length + 1), .lst S.length]] := by
    rw [List.getElem?_append_right (by omega), Nat.add_sub_cancel_left]
    rfl
  have m2 : (S ++ ([.int a, .int 4] :: [.int b, .int b] :: [[.err "InvalidPaper" ["at", "word"] [.lst (S.length + 1), .lst S.length], .err "InvalidPaper" ["at", "word"] [.lst (S.length + 1), .lst S.length]], [.err "NotUsable" ["at", "word"] [.lst (S.length + 1), .lst S.length], .err "NotUsable" ["at", "word"] [.lst (S.length + 1), .lst S.length]]]))[S.length + 3]? = some [.err "NotUsable" ["at", "word"] [.lst (S.length + 1), .lst S.length], .err "NotUsable" ["at", "word"] [.lst (S.length + 1), .lst S.length]] := by
    rw [List.getElem?_append_right (by omega), Nat.add_sub_cancel_left]
    rfl
  generalize (S ++ ([.int a, .int 4] :: [.int b, .int b] :: [[D.err "InvalidPaper" ["at", "word"] [.lst (S.length + 1), .lst S.length], .err "InvalidPaper" ["at", "word"] [.lst (S.length + 1), .lst S.length]], [.err "NotUsable" ["at", "word"] [.lst (S.length + 1), .lst S.length], .err "NotUsable" ["at", "word"] [.lst (S.length + 1), .lst S.length]]])) = T at k1 k2 m1 m2 ⊢
  refine for_const (i := 7) (P := fun F => ∃ S', flowRes F = .ok (.bl true) S') (src_lst (var_ok (i := 4) rfl) m1) m1 (by show 7 < 8; decide) ?_ fun o => ?_
  · intro x hx
    have : x = .err "InvalidPaper" ["at", "word"] [.lst (S.length + 1), .lst S.length] := by
      simp only [List.mem_cons, List.not_mem_nil, or_false, or_self] at hx
      exact hx
    subst this
    simp only [List.set_cons_zero, List.set_cons_succ]
    rw [if_else (or_2 (nfB (v := 7) (u := 2) rfl rfl k1 (by decide +kernel)) (or_2 (nfA (v := 7) (u := 3) rfl rfl k2 (by decide +kernel)) (or_2 (vT (v := 7) rfl (by decide +kernel)) (vF (v := 7) rfl (by decide +kernel)))))]
    exact if_s (or_2 (vT (v := 7) rfl (by decide +kernel)) (or_2 (vT (v := 7) rfl (by decide +kernel)) (vF (v := 7) rfl (by decide +kernel))))
  · simp only [List.set_cons_zero, List.set_cons_succ]
    refine for_const (i := 7) (P := fun F => ∃ S', flowRes F = .ok (.bl true) S') (src_lst (var_ok (i := 5) rfl) m2) m2 (by show 7 < 8; decide) ?_ fun o => ?_
    · intro x hx
      have : x = .err "NotUsable" ["at", "word"] [.lst (S.length + 1), .lst S.length] := by
        simp only [List.mem_cons, List.not_mem_nil, or_false, or_self] at hx
        exact hx
      subst this
      simp only [List.set_cons_zero, List.set_cons_succ]
      exact if_s (or_2 (nfB (v := 7) (u := 2) rfl rfl k1 (by decide +kernel)) (or_2 (nfA (v := 7) (u := 3) rfl rfl k2 (by decide +kernel)) (not_b (k := true) (test_ok ((call1 (F := rf__law_kin) (var_ok (i := 7) rfl)).trans (kin_ok ⟨_, _, .inr rfl⟩ _))))))
    · simp only [List.set_cons_zero, List.set_cons_succ]
      rw [if_else (or_2 (nfB (v := 6) (u := 2) rfl rfl k1 (by decide +kernel)) (or_2 (nfA (v := 6) (u := 3) rfl rfl k2 (by decide +kernel)) (or_2 (vF (v := 6) rfl (by decide +kernel)) (vF (v := 6) rfl (by decide +kernel)))))]
      exact ⟨_, congrArg flowRes (ret_ret (andT (isV (v := 6) rfl (by decide +kernel)) (andT (isV (v := 6) rfl (by decide +kernel)) (notF (isV (v := 6) rfl (by decide +kernel))))))⟩
theorem errors_ok (a b : Int) (S : Sto) : ∃ S', rf__law_errors [.int a, .int b] S = .ok (.bl true) S' := by
  unfold rf__law_errors runDef ev__law_errors
  rw [show begins 9 [D.int a, .int b] = [some (.int a), some (.int b), none, none, none, none, none, none, none] from rfl]
  rw [seq_next (ret_asg (l1i (var_ok (i := 0) rfl)))]
  simp only [List.set_cons_zero, List.set_cons_succ]
  rw [seq_next (ret_asg (l1i (var_ok (i := 1) rfl)))]
  simp only [List.set_cons_zero, List.set_cons_succ, List.length_append, List.length_cons, List.length_nil, Nat.zero_add, List.append_assoc, List.cons_append, List.nil_append]
  rw [seq_next (ret_asg (er_k (var_ok (i := 2) rfl)))]
  simp only [List.set_cons_zero, List.set_cons_succ]
  rw [seq_next (ret_asg (er_kk (var_ok (i := 2) rfl) (var_ok (i := 3) rfl)))]
  simp only [List.set_cons_zero, List.set_cons_succ]
  rw [seq_next (ret_asg (er_p (var_ok (i := 2) rfl)))]
  simp only [List.set_cons_zero, List.set_cons_succ]
  rw [seq_next (ret_asg (er_pk (var_ok (i := 2) rfl) (var_ok (i := 3) rfl)))]
  simp only [List.set_cons_zero, List.set_cons_succ]
  rw [grow2 (u := 2) (v := 3) rfl rfl (fun T => var_ok (i := 1) rfl) (fun T => c_ok)]
  have k1 := g1 (S := S) (a := a) (b := b) (c := b) (d := 4) (G := [])
  have k2 := g2 (S := S) (a := a) (b := b) (c := b) (d := 4) (G := [])
  generalize (S ++ ([D.int a, .int b] :: [.int b, .int 4] :: [])) = T at k1 k2 ⊢
  rw [if_else (or_2 (nf1 (v := 4) (u := 2) rfl rfl k1 (by decide +kernel)) (or_2 (vT (v := 4) rfl (by decide +kernel)) (vF (v := 4) rfl (by decide +kernel))))]
  rw [if_else (or_2 (nfB (v := 5) (u := 2) rfl rfl k1 (by decide +kernel)) (or_2 (nfA (v := 5) (u := 3) rfl rfl k2 (by decide +kernel)) (or_2 (vT (v := 5) rfl (by decide +kernel)) (vF (v := 5) rfl (by decide +kernel)))))]
  rw [if_else (or_2 (nf1 (v := 6) (u := 2) rfl rfl k1 (by decide +kernel)) (or_2 (vT (v := 6) rfl (by decide +kernel)) (vF (v := 6) rfl (by decide +kernel))))]
  rw [if_else (or_2 (nfB (v := 7) (u := 2) rfl rfl k1 (by decide +kernel)) (or_2 (nfA (v := 7) (u := 3) rfl rfl k2 (by decide +kernel)) (or_2 (vT (v := 7) rfl (by decide +kernel)) (vF (v := 7) rfl (by decide +kernel)))))]
  refine for_const (i := 8) (P := fun F => ∃ S', flowRes F = .ok (.bl true) S') (src_lst (al_lst (al_cons (var_ok (i := 4) rfl) (al_cons (var_ok (i := 5) rfl) (al_cons (var_ok (i := 6) rfl) (al_cons (var_ok (i := 7) rfl) al_nil)))) (by show (4 : Nat) ≤ 1000; decide)) (at_end _ _)) (at_end _ _) (by show 8 < 9; decide) ?_ fun o => ?_
  · intro x hx
    simp only [List.mem_cons, List.not_mem_nil, or_false] at hx
    rcases hx with rfl | rfl | rfl | rfl <;>
    · simp only [List.set_cons_zero, List.set_cons_succ]
      exact if_s (or_2 (vT (v := 8) rfl (by decide +kernel)) (or_2 (vT (v := 8) rfl (by decide +kernel)) (vF (v := 8) rfl (by decide +kernel))))
  · simp only [List.set_cons_zero, List.set_cons_succ]
    exact ⟨_, congrArg flowRes (ret_ret (andT (notF (isV (v := 5) rfl (by decide +kernel))) (notF (isV (v := 7) rfl (by decide +kernel)))))⟩
end LawM
end
section
set_option Elab.async false
set_option linter.all false
set_option maxRecDepth 100000
set_option maxHeartbeats 1000000
/-! K23: the law's loops. -/
namespace LawM
open PySem PySem.Spec PyProof.Rows L2 MP
def Gr (S T : Sto) : Prop := ∃ G, T = S ++ G
theorem Gr.refl (S : Sto) : Gr S S := ⟨[], by simp⟩
theorem Gr.app (S G : Sto) : Gr S (S ++ G) := ⟨G, rfl⟩
theorem Gr.trans {S T U : Sto} (h : Gr S T) (k : Gr T U) : Gr S U := by
  obtain ⟨G, rfl⟩ := h
  obtain ⟨H, rfl⟩ := k
  exact ⟨G ++ H, by simp⟩
theorem Gr.at_ {S T : Sto} {l : Nat} {xs : List D} (h : Gr S T) (e : S[l]? = some xs) : T[l]? = some xs := by
  obtain ⟨G, rfl⟩ := h
  exact app_at e G
theorem Gr.po {S T : Sto} {n : Nat} (h : Gr S T) (e : Po n S) : Po n T := by
  obtain ⟨G, rfl⟩ := h
  exact e.app G
theorem Gr.fr {S T : Sto} (h : Gr S T) : Fr S T := by
  obtain ⟨G, rfl⟩ := h
  exact Fr.app _ _
theorem for_gr' {src : MP.Env → Sto → Res Src} {b : D → MP.Env → Option MP.Env} {body : Es} {ρ : MP.Env} {S S1 : Sto} {z : Src} (hs : src ρ S = .ok z S1) (E : MP.Env → Prop) (hz : ∀ T, Gr S1 T → z.st T)
    (step : ∀ x ∈ z.xs, ∀ ρ T, E ρ → Gr S1 T → ∃ ρ1 ρ2 T', b x ρ = some ρ1 ∧ body ρ1 T = .next ρ2 T' ∧ Gr T T' ∧ E ρ2) (h : E ρ) : ∃ ρ' T, sFor src b body ρ S = .next ρ' T ∧ E ρ' ∧ Gr S1 T := by
  obtain ⟨ρ', S', e1, e2, e3⟩ := for_all (st := z.st) (b := b) (body := body) (fun _ ρ T => E ρ ∧ Gr S1 T) (fun _ _ T h => hz T h.2) z.xs ρ S1 (fun i x ρ T hx hI => by
    obtain ⟨ρ1, ρ2, T', g1, g2, g3, g4⟩ := step x (List.mem_of_getElem? hx) ρ T hI.1 hI.2
    exact ⟨ρ1, ρ2, T', g1, g2, g4, hI.2.trans g3⟩) ⟨h, Gr.refl _⟩
  exact ⟨ρ', S', forX hs e1, e2, e3⟩
theorem prL {k : Nat} (hk : k < 5) {x y : D} (hx : PV x) (hy : PV y) {c : Bool} {e1 e2 e3 e4 : Ev} {ρ : MP.Env} {T : Sto} (h1 : e1 ρ T = .ok (.int (k : Nat)) T) (h2 : e2 ρ T = .ok x T) (h3 : e3 ρ T = .ok y T) (h4 : e4 ρ T = .ok (.bl c) T) : eNotT (eTest (eCall 4 rf__law_pair (aCons e1 (aCons e2 (aCons e3 (aCons e4 aNil)))))) ρ T = .ok false T := not_b (k := true) (test_ok ((call4 h1 h2 h3 h4).trans (pair_ok hk hx hy c T)))
theorem prH {k : Nat} (h5 : 4 < k) (hk : k < 8) {x y : D} (hx : pln x = true) (hy : RV y) {c : Bool} {e1 e2 e3 e4 : Ev} {ρ : MP.Env} {T T1 : Sto} (h1 : e1 ρ T = .ok (.int (k : Nat)) T) (h2 : e2 ρ T = .ok x T) (h3 : e3 ρ T = .ok y T1) (h4 : e4 ρ T1 = .ok (.bl c) T1) : ∃ G, eNotT (eTest (eCall 4 rf__law_pair (aCons e1 (aCons e2 (aCons e3 (aCons e4 aNil)))))) ρ T = .ok false (T1 ++ G) := by
  obtain ⟨G, e⟩ := pair_hi h5 hk hx hy c T1
  exact ⟨G, not_b (k := true) (test_ok ((call4 h1 h2 h3 h4).trans e))⟩
theorem not_v {i : Nat} {b : Bool} {ρ : MP.Env} {S : Sto} (h : ρ[i]? = some (some (.bl b))) : eNot (eVar i) ρ S = .ok (.bl (!b)) S := by
  unfold eNot
  rw [var_ok h, Res.bind_ok]
@[reducible] def EW (n : D) (b : Bool) (lv lg : Nat) (a5 a6 a7 a8 a9 : Option D) : MP.Env := [some n, some (.lst 1), some (.bl b), some (.lst lv), some (.lst lg), a5, a6, a7, a8, a9, none]
noncomputable abbrev cntB : Es :=
(sSeq (sFor (iSeq (eLst (aCons (eC (.int 5)) (aCons (eC (.int 6)) aNil)))) (bName 6)
 (sIf (eOrT (eNotT (eTest (eCall 4 rf__law_pair (aCons (eVar 6) (aCons (eVar 9) (aCons (eL dTupOf (aCons (eVar 7) aNil)) (aCons (eVar 2) aNil))))))) (eNotT (eTest (eCall 4 rf__law_pair (aCons (eVar 6) (aCons (eVar 9) (aCons (eL dListOf (aCons (eVar 7) aNil)) (aCons (eNot (eVar 2)) aNil))))))))
 (sRet (eC (.bl false)))
 sSkip))
 (sSeq (sIf (eOrT (eNotT (eTest (eCall 4 rf__law_pair (aCons (eC (.int 5)) (aCons (eVar 9) (aCons (eB dIx (eVar 3) (eC (.int 0))) (aCons (eVar 2) aNil))))))) (eNotT (eTest (eCall 4 rf__law_pair (aCons (eC (.int 6)) (aCons (eVar 9) (aCons (eTup aNil) (aCons (eVar 2) aNil))))))))
 (sRet (eC (.bl false)))
 sSkip)
 (sFor (iSeq (eLst (aCons (eB dIx (eVar 3) (eC (.int 1))) (aCons (eU dNeg (eC (.int 5))) (aCons (eU dNeg (eC (.int 4))) (aCons (eU dNeg (eC (.int 1))) (aCons (eC (.int 0)) (aCons (eB dSub (eL dLen (aCons (eVar 7) aNil)) (eC (.int 1))) (aCons (eL dLen (aCons (eVar 7) aNil)) (aCons (eC (.bl true)) aNil)))))))))) (bName 5)
 (sIf (eNotT (eTest (eCall 4 rf__law_pair (aCons (eC (.int 7)) (aCons (eVar 9) (aCons (eVar 5) (aCons (eVar 2) aNil)))))))
 (sRet (eC (.bl false)))
 sSkip))))
noncomputable abbrev deedB : Es :=
(sSeq (sIf (eOrT (eNotT (eTest (eCall 4 rf__law_pair (aCons (eVar 6) (aCons (eB dIx (eVar 4) (eC (.int 0))) (aCons (eB dIx (eVar 4) (eC (.int 1))) (aCons (eVar 2) aNil))))))) (eNotT (eTest (eCall 4 rf__law_pair (aCons (eVar 6) (aCons (eB dIx (eVar 4) (eC (.int 1))) (aCons (eB dIx (eVar 4) (eC (.int 1))) (aCons (eNot (eVar 2)) aNil))))))))
 (sRet (eC (.bl false)))
 sSkip)
 (sSeq (sIf (eOrT (eNotT (eTest (eCall 4 rf__law_pair (aCons (eVar 6) (aCons (eB dIx (eVar 4) (eC (.int 0))) (aCons (eB dIx (eVar 3) (eC (.int 0))) (aCons (eVar 2) aNil))))))) (eNotT (eTest (eCall 4 rf__law_pair (aCons (eVar 6) (aCons (eB dIx (eVar 3) (eC (.int 1))) (aCons (eB dIx (eVar 4) (eC (.int 1))) (aCons (eVar 2) aNil))))))))
 (sRet (eC (.bl false)))
 sSkip)
 (sIf (eNotT (eTest (eCall 4 rf__law_pair (aCons (eVar 6) (aCons (eB dIx (eVar 3) (eC (.int 2))) (aCons (eB dIx (eVar 3) (eC (.int 0))) (aCons (eNot (eVar 2)) aNil)))))))
 (sRet (eC (.bl false)))
 sSkip)))
theorem deed_ok {n : D} {b : Bool} {lv lg k : Nat} {a5 a7 a8 a9 : Option D} {S : Sto} {v0 v1 v2 g0 g1 : D} (hk : k < 5) (hv : S[lv]? = some [v0, v1, v2]) (hg : S[lg]? = some [g0, g1]) (m0 : PV v0) (m1 : PV v1) (m2 : PV v2) (n0 : PV g0) (n1 : PV g1) : deedB (EW n b lv lg a5 (some (.int (k : Nat))) a7 a8 a9) S = .next (EW n b lv lg a5 (some (.int (k : Nat))) a7 a8 a9) S := by
  have x0 : eB dIx (eVar 3) (eC (.int 0)) (EW n b lv lg a5 (some (.int (k : Nat))) a7 a8 a9) S = .ok v0 S := b_ok (var_ok (i := 3) rfl) c_ok (ix_lst (k := 0) hv rfl)
  have x1 : eB dIx (eVar 3) (eC (.int 1)) (EW n b lv lg a5 (some (.int (k : Nat))) a7 a8 a9) S = .ok v1 S := b_ok (var_ok (i := 3) rfl) c_ok (ix_lst (k := 1) hv rfl)
  have x2 : eB dIx (eVar 3) (eC (.int 2)) (EW n b lv lg a5 (some (.int (k : Nat))) a7 a8 a9) S = .ok v2 S := b_ok (var_ok (i := 3) rfl) c_ok (ix_lst (k := 2) hv rfl)
  have y0 : eB dIx (eVar 4) (eC (.int 0)) (EW n b lv lg a5 (some (.int (k : Nat))) a7 a8 a9) S = .ok g0 S := b_ok (var_ok (i := 4) rfl) c_ok (ix_lst (k := 0) hg rfl)
  have y1 : eB dIx (eVar 4) (eC (.int 1)) (EW n b lv lg a5 (some (.int (k : Nat))) a7 a8 a9) S = .ok g1 S := b_ok (var_ok (i := 4) rfl) c_ok (ix_lst (k := 1) hg rfl)
  have d6 : eVar 6 (EW n b lv lg a5 (some (.int (k : Nat))) a7 a8 a9) S = .ok (.int (k : Nat)) S := var_ok rfl
  have w2 : eVar 2 (EW n b lv lg a5 (some (.int (k : Nat))) a7 a8 a9) S = .ok (.bl b) S := var_ok rfl
  have w3 : eNot (eVar 2) (EW n b lv lg a5 (some (.int (k : Nat))) a7 a8 a9) S = .ok (.bl (!b)) S := not_v rfl
  unfold deedB
  rw [if_else (or_2 (prL hk n0 n1 d6 y0 y1 w2) (prL hk n1 n1 d6 y1 y1 w3)), if_else (or_2 (prL hk n0 m0 d6 y0 x0 w2) (prL hk m1 n1 d6 x1 y1 w2))]
  exact if_s (prL hk m2 m0 d6 x2 x0 w3)
theorem rv_row {xs : List D} (hl : xs.length ≤ 40) (hm : ∀ x ∈ xs, MV x) : RV (.tup xs) := ⟨rfl, fun ys e => by
  cases e
  exact ⟨by omega, fun x hx => ⟨(hm x hx).pv.qv, (hm x hx).pv.qb⟩⟩⟩
theorem rv_int {i : Int} : RV (.int i) := rv_no rfl fun xs e => by cases e
theorem count_ok {n x : D} {b : Bool} {lv lg lh : Nat} {a5 a6 a8 : Option D} {S : Sto} {v0 v1 v2 : D} {xs : List D} (hx : pln x = true) (hv : S[lv]? = some [v0, v1, v2]) (m0 : MV v0) (m1 : MV v1) (hh : S[lh]? = some xs) (hl : xs.length ≤ 40) (hm : ∀ x ∈ xs, MV x) :
    ∃ b5 b6 T, cntB (EW n b lv lg a5 a6 (some (.lst lh)) a8 (some x)) S = .next (EW n b lv lg b5 b6 (some (.lst lh)) a8 (some x)) T ∧ Gr S T := by
  obtain ⟨ρ1, T1, e1, ⟨b6, rfl⟩, g1⟩ := for_gr' (b := bName 6) (body := (sIf (eOrT (eNotT (eTest (eCall 4 rf__law_pair (aCons (eVar 6) (aCons (eVar 9) (aCons (eL dTupOf (aCons (eVar 7) aNil)) (aCons (eVar 2) aNil))))))) (eNotT (eTest (eCall 4 rf__law_pair (aCons (eVar 6) (aCons (eVar 9) (aCons (eL dListOf (aCons (eVar 7) aNil)) (aCons (eNot (eVar 2)) aNil)))))))) (sRet (eC (.bl false))) sSkip))
    (src_lst (al_lst (al_cons (c_ok (d := .int 5)) (al_cons (c_ok (d := .int 6)) al_nil)) (by show (2 : Nat) ≤ 1000; decide)) (at_end _ _)) (fun ρ => ∃ a6, ρ = EW n b lv lg a5 a6 (some (.lst lh)) a8 (some x)) (S := S) (ρ := EW n b lv lg a5 a6 (some (.lst lh)) a8 (some x)) (fun T h => h.at_ (at_end _ _)) (by
      rintro y hy ρ T ⟨a6, rfl⟩ hT
      obtain ⟨k, k1, k2, rfl⟩ : ∃ k : Nat, 4 < k ∧ k < 8 ∧ y = .int (k : Nat) := by
        simp only [List.mem_cons, List.not_mem_nil, or_false] at hy
        rcases hy with rfl | rfl
        · exact ⟨5, by decide, by decide, rfl⟩
        · exact ⟨6, by decide, by decide, rfl⟩
      have hh1 := hT.at_ (app_at hh _)
      obtain ⟨G1, q1⟩ := prH (ρ := EW n b lv lg a5 (some (.int (k : Nat))) (some (.lst lh)) a8 (some x)) k1 k2 hx (rv_row hl hm) (var_ok (i := 6) rfl) (var_ok (i := 9) rfl) (el_ok (var_ok (i := 7) rfl) (tup_lst hh1)) (var_ok (i := 2) rfl)
      obtain ⟨G2, q2⟩ := prH (ρ := EW n b lv lg a5 (some (.int (k : Nat))) (some (.lst lh)) a8 (some x)) k1 k2 hx mv_lst.rv (var_ok (i := 6) rfl) (var_ok (i := 9) rfl) (el_ok (var_ok (i := 7) rfl) (list_lst (app_at hh1 G1))) (not_v (i := 2) rfl)
      exact ⟨_, _, _, rfl, if_s (or_2 q1 q2), ((Gr.app _ _).trans (Gr.app _ _)).trans (Gr.app _ _), _, rfl⟩) ⟨a6, rfl⟩
  have g1 := (Gr.app S _).trans g1
  have hv1 := g1.at_ hv
  have hh1 := g1.at_ hh
  have cw : cntB (EW n b lv lg a5 a6 (some (.lst lh)) a8 (some x)) S = _ := seq_next e1
  rw [cw]
  clear cw e1
  have x0 : eB dIx (eVar 3) (eC (.int 0)) (EW n b lv lg a5 b6 (some (.lst lh)) a8 (some x)) T1 = .ok v0 T1 := b_ok (var_ok (i := 3) rfl) c_ok (ix_lst (k := 0) hv1 rfl)
  obtain ⟨G1, q1⟩ := prH (k := 5) (c := b) (e1 := eC (.int 5)) (ρ := EW n b lv lg a5 b6 (some (.lst lh)) a8 (some x)) (by decide) (by decide) hx m0.rv c_ok (var_ok (i := 9) rfl) x0 (var_ok (i := 2) rfl)
  obtain ⟨G2, q2⟩ := prH (k := 6) (c := b) (e1 := eC (.int 6)) (ρ := EW n b lv lg a5 b6 (some (.lst lh)) a8 (some x)) (T := T1 ++ G1) (by decide) (by decide) hx (y := .tup []) ⟨rfl, fun ys e => by cases e; exact ⟨by decide, fun x hx => by cases hx⟩⟩ c_ok (var_ok (i := 9) rfl) (q_tup0 _ _) (var_ok (i := 2) rfl)
  rw [seq_next (if_s (or_2 q1 q2))]
  have g2 := (g1.trans (Gr.app T1 G1)).trans (Gr.app _ G2)
  have hv2 := g2.at_ hv
  have hh2 := g2.at_ hh
  generalize T1 ++ G1 ++ G2 = T2 at *
  have ln : eL dLen (aCons (eVar 7) aNil) (EW n b lv lg a5 b6 (some (.lst lh)) a8 (some x)) T2 = .ok (.int xs.length) T2 := el_ok (var_ok (i := 7) rfl) (len_lst hh2)
  have sl := src_lst (al_lst (al_cons (b_ok (g := dIx) (var_ok (i := 3) rfl) (c_ok (d := .int 1)) (ix_lst (k := 1) hv2 rfl)) (al_cons (neg_ok (x := 5) c_ok) (al_cons (neg_ok (x := 4) c_ok) (al_cons (neg_ok (x := 1) c_ok) (al_cons (c_ok (d := .int 0)) (al_cons (sub_ok ln (c_ok (d := .int 1))) (al_cons ln (al_cons (c_ok (d := .bl true)) al_nil)))))))) (by show (8 : Nat) ≤ 1000; decide)) (at_end _ _)
  obtain ⟨ρ3, T3, e3, ⟨b5, rfl⟩, g3⟩ := for_gr' (b := bName 5) (body := (sIf (eNotT (eTest (eCall 4 rf__law_pair (aCons (eC (.int 7)) (aCons (eVar 9) (aCons (eVar 5) (aCons (eVar 2) aNil))))))) (sRet (eC (.bl false))) sSkip)) sl (fun ρ => ∃ a5, ρ = EW n b lv lg a5 b6 (some (.lst lh)) a8 (some x)) (fun T h => h.at_ (at_end _ _)) (by
      rintro y hy ρ T ⟨a5, rfl⟩ hT
      have ry : RV y := by
        simp only [List.mem_cons, List.not_mem_nil, or_false] at hy
        rcases hy with rfl | rfl | rfl | rfl | rfl | rfl | rfl | rfl
        · exact m1.rv
        · exact rv_int
        · exact rv_int
        · exact rv_int
        · exact rv_int
        · exact rv_int
        · exact rv_int
        · exact mv_bl.rv
      obtain ⟨G1, q1⟩ := prH (k := 7) (c := b) (e1 := eC (.int 7)) (ρ := EW n b lv lg (some y) b6 (some (.lst lh)) a8 (some x)) (by decide) (by decide) hx ry (T := T) c_ok (var_ok (i := 9) rfl) (var_ok (i := 5) rfl) (var_ok (i := 2) rfl)
      exact ⟨_, _, _, rfl, if_s q1, Gr.app _ _, _, rfl⟩) ⟨a5, rfl⟩
  exact ⟨b5, b6, T3, e3, g2.trans ((Gr.app _ _).trans g3)⟩
end LawM
end
section
set_option Elab.async false
set_option linter.all false
set_option maxRecDepth 100000
set_option maxHeartbeats 1000000
/-! K24: the law. -/
namespace LawM
open PySem PySem.Spec PyProof.Rows L2 MP
theorem alone_one {n v : D} {b : Bool} {lv lg : Nat} {a6 a7 a8 a9 : Option D} {S : Sto} (m : Men v) : ∃ T, (sIf (eNotT (eTest (eCall 2 rf__law_alone (aCons (eVar 5) (aCons (eVar 2) aNil))))) (sRet (eC (.bl false))) sSkip) (EW n b lv lg (some v) a6 a7 a8 a9) S = .next (EW n b lv lg (some v) a6 a7 a8 a9) T ∧ Gr S T := by
  obtain ⟨G, e⟩ := alone_ok m b S
  exact ⟨_, if_s (not_b (k := true) (test_ok ((call2 (var_ok (i := 5) rfl) (var_ok (i := 2) rfl)).trans e))), Gr.app _ _⟩
theorem MV.men {v : D} (h : MV v) : Men v := ⟨h.pv.qv, h.pv.qb, h.sm⟩
/-- what may be no number of pictures; n is where the list of one lies -/
def bads (n : Nat) : List D := [.int (-1), .bl true, .bl false, .non, .str "2", .tup [.int 2], .lst n, .int (0 - 10 ^ 59), .tup [.int 2, .int 1]]
theorem bads_pln {n k : Nat} {d : D} (h : (bads n)[k]? = some d) : pln d = true := by
  have key : ∀ d ∈ bads n, pln d = true := by
    intro d hd
    simp only [bads, List.mem_cons, List.not_mem_nil, or_false] at hd
    rcases hd with rfl | rfl | rfl | rfl | rfl | rfl | rfl | rfl | rfl <;> rfl
  exact key d (List.mem_of_getElem? h)
theorem el_args {g : OpL} {a : EvA} {ρ : MP.Env} {S S1 S2 : Sto} {ds : List D} {z : D} (h : a ρ S = .ok ds S1) (h2 : g ds S1 = some (z, S2)) : eL g a ρ S = .ok z S2 := by
  unfold eL
  rw [h, Res.bind_ok, h2, lift_some]
theorem p59 {ρ : MP.Env} {S : Sto} : eB dPow (eC (.int 10)) (eC (.int 59)) ρ S = .ok (.int (10 ^ 59)) S := b_ok c_ok c_ok (pow10 59 (by decide))
theorem law_ok {ns : List Int} (hb : ∀ z ∈ ns, Bt z 2000000) : ∃ S, rf_law [.frl (ns.map D.int)] [] = .ok (.bl true) S := by
  obtain ⟨P0, e0, p0⟩ := pool_ok hb
  unfold rf_law runDef ev_law
  generalize hn : D.frl (ns.map D.int) = n at e0 ⊢
  have s0 : Po 0 [ns.map D.int, P0] := ⟨_, _, [], rfl, p0⟩
  rw [show begins 11 [n] = [some n, none, none, none, none, none, none, none, none, none, none] from rfl]
  rw [seq_next (ret_asg ((call1 (var_ok (i := 0) rfl)).trans e0))]
  simp only [List.set_cons_zero, List.set_cons_succ]
  obtain ⟨r, S1, e1, l1, h1, f1⟩ := tkC (i := 1) (z := 2) (ρ := [some n, some (.lst 1), none, none, none, none, none, none, none, none, none]) 2 s0 (by omega)
  rw [seq_next (ret_asg (eq_ok e1 c_ok))]
  simp only [List.set_cons_zero, List.set_cons_succ]
  generalize decide ((r : Int) = 1) = b
  obtain ⟨v0, T1, d1, m0, q1, g1⟩ := value_ok h1 (by omega)
  obtain ⟨v1, T2, d2, m1, q2, g2⟩ := value_ok q1 (by omega)
  obtain ⟨v2, T3, d3, m2, q3, g3⟩ := value_ok q2 (by omega)
  have cv : ∀ {T T' : Sto} {v : D}, rf__law_value [.lst 1] T = .ok v T' → eCall 1 rf__law_value (aCons (eVar 1) aNil) [some n, some (.lst 1), some (.bl b), none, none, none, none, none, none, none, none] T = .ok v T' := fun h => (call1 (var_ok (i := 1) rfl)).trans h
  rw [seq_next (ret_asg (al_lst (al_cons (cv d1) (al_cons (cv d2) (al_cons (cv d3) al_nil))) (by show (3 : Nat) ≤ 1000; decide)))]
  simp only [List.set_cons_zero, List.set_cons_succ]
  have hv : (T3 ++ [[v0, v1, v2]])[T3.length]? = some [v0, v1, v2] := at_end _ _
  have k3 := q3.len
  have q3 := q3.app [[v0, v1, v2]]
  generalize T3 ++ [[v0, v1, v2]] = S2 at *
  generalize T3.length = lv at *
  clear cv d1 d2 d3
  obtain ⟨x, U1, e2, _, x1, x2, q4, g4⟩ := smallP (i := 1) (ρ := [some n, some (.lst 1), some (.bl b), some (.lst lv), none, none, none, none, none, none, none]) q3 (by omega)
  obtain ⟨y, U2, e3, _, y1, y2, q5, g5⟩ := smallP (i := 1) (ρ := [some n, some (.lst 1), some (.bl b), some (.lst lv), none, none, none, none, none, none, none]) q4 (by omega)
  rw [seq_next (ret_asg (al_lst (al_cons e2 (al_cons e3 al_nil)) (by show (2 : Nat) ≤ 1000; decide)))]
  simp only [List.set_cons_zero, List.set_cons_succ]
  have hv := (Fr.app U2 [[dq x, dq y]]).at_ k3 (g5.at_ k3 (g4.at_ k3 hv))
  have hg : (U2 ++ [[dq x, dq y]])[U2.length]? = some [dq x, dq y] := at_end _ _
  have kg := q5.len
  have q6 := q5.app [[dq x, dq y]]
  have mx := (small_q x1 x2).pv
  have my := (small_q y1 y2).pv
  generalize U2 ++ [[dq x, dq y]] = S3 at *
  generalize U2.length = lg at *
  obtain ⟨t, S4, e4, l4, h4, f4⟩ := tkC (i := 1) (z := 16) (ρ := [some n, some (.lst 1), some (.bl b), some (.lst lv), some (.lst lg), none, none, none, none, none, none]) 16 q6 (by omega)
  have hv := f4.at_ k3 hv
  have hg := f4.at_ kg hg
  have te := test_ok (eq_ok e4 (c_ok (d := .int 15)))
  -- the good ones, short or long
  have key : ∀ (R : Es) (Q : MP.Flow → Prop), (∀ (g0 g1 : D) (lg : Nat) (S : Sto), PV g0 → PV g1 → 2 ≤ lg → S[lg]? = some [g0, g1] → S[lv]? = some [v0, v1, v2] → Po 100 S → Q (R (EW n b lv lg none none none none none) S)) →
      Q (sSeq (sIf (eTest (eB dEq (eCall 2 rf__law_take (aCons (eVar 1) (aCons (eC (.int 16)) aNil))) (eC (.int 15)))) (sAsg 4 (eCall 1 rf__law_long (aCons (eVar 1) aNil))) sSkip) R (EW n b lv lg none none none none none) S3) := by
    intro R Q h
    by_cases c : (t : Int) = 15
    · rw [decide_eq_true c] at te
      obtain ⟨q, w, l, S5, e5, hl, hq, hw, k5, h5, f5⟩ := long_ok h4 (by omega)
      rw [seq_next ((if_t te).trans (ret_asg ((call1 (var_ok (i := 1) rfl)).trans e5)))]
      simp only [List.set_cons_zero, List.set_cons_succ]
      exact h (dq q) (dq w) l S5 (mv_q hq.b1 hq.b2).pv (mv_q hw.b1 hw.b2).pv k5 hl (f5.at_ k3 hv) (h5.mono (by omega))
    · rw [decide_eq_false c] at te
      rw [seq_next (if_s te)]
      exact h _ _ lg S4 mx my kg hg hv (h4.mono (by omega))
  refine key _ (fun F => ∃ S, flowRes F = .ok (.bl true) S) ?_
  clear key te hg hv kg mx my h4 f4 l4 e4 q6 g5 g4 q5 q4 e2 e3
  intro g0 g1 lg S5 n0 n1 kg hg hv h5
  -- each alone
  obtain ⟨a, V1, e6, l6, h6, f6⟩ := tkC (i := 1) (z := 9) (ρ := EW n b lv lg none none none none none) 9 h5 (by omega)
  obtain ⟨c, V2, e7, l7, h7, f7⟩ := tkC (i := 1) (z := 61) (ρ := EW n b lv lg none none none none none) 61 h6 (by omega)
  have hv := f7.at_ k3 (f6.at_ k3 hv)
  have hg := f7.at_ kg (f6.at_ kg hg)
  have ls := b_ok (g := dAdd) (var_ok (i := 3) (S := S5) (ρ := EW n b lv lg none none none none none) rfl) (al_lst (al_cons (sub_ok e6 (c_ok (d := .int 5))) (al_cons e7 al_nil)) (by show (2 : Nat) ≤ 1000; decide)) (add_lst (app_at hv [[D.int ((a : Int) - 5), .int (c : Int)]]) (at_end _ _) (by show 3 + 2 ≤ 1000000; decide))
  obtain ⟨ρ1, S6, e8, ⟨a5, rfl⟩, r6⟩ := for_gr' (b := bName 5) (body := (sIf (eNotT (eTest (eCall 2 rf__law_alone (aCons (eVar 5) (aCons (eVar 2) aNil))))) (sRet (eC (.bl false))) sSkip)) (src_lst ls (at_end _ _)) (fun ρ => ∃ a5, ρ = EW n b lv lg a5 none none none none) (fun T h => h.at_ (at_end _ _)) (by
    rintro z hz ρ T ⟨a5, rfl⟩ hT
    have mz : Men z := by
      simp only [List.mem_append, List.mem_cons, List.not_mem_nil, or_false] at hz
      rcases hz with (rfl | rfl | rfl) | (rfl | rfl)
      · exact m0.men
      · exact m1.men
      · exact m2.men
      · exact (mv_int (btz (by omega) (by omega) (by decide))).men
      · exact (mv_int (btz (by omega) (by omega) (by decide))).men
    obtain ⟨T', k, kg⟩ := alone_one (n := n) (b := b) (lv := lv) (lg := lg) (a6 := none) (a7 := none) (a8 := none) (a9 := none) (S := T) mz
    exact ⟨_, _, T', rfl, k, kg, _, rfl⟩) ⟨none, rfl⟩
  rw [seq_next e8]
  have r6 := ((Gr.app V2 _).trans (Gr.app _ _)).trans r6
  have hv := r6.at_ hv
  have hg := r6.at_ hg
  have h6 := r6.po h7
  clear ls e8 r6 e6 e7
  -- the five deeds
  obtain ⟨ρ2, S7, e9, ⟨a6, rfl⟩, r7⟩ := for_gr' (b := bName 6) (body := deedB) (ρ := EW n b lv lg a5 none none none none) (src_rng (n := 5) (args1' (S := S6) (c_ok (d := .int 5))) (by decide)) (fun ρ => ∃ a6, ρ = EW n b lv lg a5 a6 none none none) (fun _ _ => trivial) (by
    rintro z hz ρ T ⟨a6, rfl⟩ hT
    obtain ⟨i, hi⟩ := List.mem_iff_getElem?.mp hz
    obtain ⟨hj, rfl⟩ := rng_at hi
    exact ⟨_, _, T, rfl, deed_ok hj (hT.at_ hv) (hT.at_ hg) m0.pv m1.pv m2.pv n0 n1, Gr.refl _, _, rfl⟩) ⟨none, rfl⟩
  rw [seq_next e9]
  have hv := r7.at_ hv
  have h7 := r7.po h6
  clear e9
  -- the row
  obtain ⟨xs, lh, S8, e10, hh, hl, hm, kh, h8, f8⟩ := row_ok h7 (by omega)
  rw [seq_next (ret_asg ((call1 (var_ok (i := 1) rfl)).trans e10))]
  simp only [List.set_cons_zero, List.set_cons_succ]
  have hv := f8.at_ k3 hv
  have eb : eLst (aCons (eU dNeg (eC (.int 1))) (aCons (eC (.bl true)) (aCons (eC (.bl false)) (aCons (eC .non) (aCons (eC (.str "2")) (aCons (eTup (aCons (eC (.int 2)) aNil)) (aCons (eLst (aCons (eC (.int 1)) aNil)) (aCons (eB dSub (eC (.int 0)) (eB dPow (eC (.int 10)) (eC (.int 59)))) (aCons (eTup (aCons (eC (.int 2)) (aCons (eC (.int 1)) aNil))) aNil))))))))) (EW n b lv lg a5 a6 (some (.lst lh)) none none) S8 = .ok (.lst (S8 ++ [[D.int 1]]).length) ((S8 ++ [[D.int 1]]) ++ [bads S8.length]) :=
    al_lst (al_cons (neg_ok (x := 1) c_ok) (al_cons c_ok (al_cons c_ok (al_cons c_ok (al_cons c_ok (al_cons (el_ok (g := fun ds S => dTup ds S) c_ok rfl) (al_cons (l1i c_ok) (al_cons (sub_ok c_ok p59) (al_cons (tup2_ok c_ok c_ok) al_nil))))))))) (by show (9 : Nat) ≤ 1000; decide)
  obtain ⟨i, S9, e11, l9, h9, f9⟩ := tkC (i := 1) (z := 9) (ρ := EW n b lv lg a5 a6 (some (.lst lh)) none none) 9 ((h8.app [[D.int 1]]).app [bads S8.length]) (by omega)
  obtain ⟨w, hw⟩ : ∃ w, (bads S8.length)[i]? = some w := ⟨_, List.getElem?_eq_getElem (by show i < 9; omega)⟩
  have kb := f9.at_ (h8.app [[D.int 1]]).len (at_end (S8 ++ [[D.int 1]]) (bads S8.length))
  have pw := bads_pln hw
  have f89 := ((Fr.app S8 [[D.int 1]]).trans (Fr.app _ [bads S8.length])).trans f9
  have hv := f89.at_ k3 hv
  have hh := f89.at_ kh hh
  rw [seq_next (ret_asg (b_ok eb e11 (ix_lst (k := i) kb hw)))]
  simp only [List.set_cons_zero, List.set_cons_succ]
  clear eb e11 kb hw f89 f9 h8 f8 e10 h7 r7
  have ln : eL dLen (aCons (eVar 7) aNil) (EW n b lv lg a5 a6 (some (.lst lh)) (some w) none) S9 = .ok (.int xs.length) S9 := el_ok (var_ok (i := 7) rfl) (len_lst hh)
  have mx : eL dMax (aCons (eC (.int 0)) (aCons (eB dSub (eL dLen (aCons (eVar 7) aNil)) (eC (.int 1))) aNil)) (EW n b lv lg a5 a6 (some (.lst lh)) (some w) none) S9 = .ok (.int (if (xs.length : Int) - 1 > 0 then (xs.length : Int) - 1 else 0)) S9 := by
    exact el_args (al_cons c_ok (al_cons (sub_ok ln c_ok) al_nil)) rfl
  have sc := src_lst (al_lst (al_cons ln (al_cons mx (al_cons (add_ok ln (c_ok (d := .int 1))) (al_cons (c_ok (d := .int 0)) (al_cons p59 (al_cons (var_ok (i := 8) rfl) al_nil)))))) (by show (6 : Nat) ≤ 1000; decide)) (at_end _ _)
  obtain ⟨ρ3, S10, e12, ⟨b5, b6, b9, rfl⟩, r10⟩ := for_gr' (b := bName 9) (body := cntB) sc (fun ρ => ∃ a5 a6 a9, ρ = EW n b lv lg a5 a6 (some (.lst lh)) (some w) a9) (fun T h => h.at_ (at_end _ _)) (by
    rintro z hz ρ T ⟨c5, c6, c9, rfl⟩ hT
    have pz : pln z = true := by
      simp only [List.mem_cons, List.not_mem_nil, or_false] at hz
      rcases hz with rfl | rfl | rfl | rfl | rfl | rfl
      · rfl
      · rfl
      · rfl
      · rfl
      · rfl
      · exact pw
    obtain ⟨d5, d6, T', k, kg⟩ := count_ok (n := n) (b := b) (lv := lv) (lg := lg) (lh := lh) (a5 := c5) (a6 := c6) (a8 := some w) (S := T) pz (hT.at_ (app_at hv _)) m0 m1 (hT.at_ (app_at hh _)) hl hm
    exact ⟨_, _, T', rfl, k, kg, _, _, _, rfl⟩) ⟨a5, a6, none, rfl⟩
  rw [seq_next e12]
  have h10 := r10.po (h9.app _)
  obtain ⟨f, S11, e13, l11, h11, f11⟩ := tkC (i := 1) (z := 9) (ρ := EW n b lv lg b5 b6 (some (.lst lh)) (some w) b9) 9 h10 (by omega)
  rw [seq_next (ret_asg e13)]
  simp only [List.set_cons_zero, List.set_cons_succ]
  obtain ⟨S12, p12⟩ := papers_ok (f : Int) ((f : Int) + 3) S11
  obtain ⟨S13, p13⟩ := errors_ok (f : Int) ((f : Int) + 3) S12
  have fin := andT ((call2 (F := rf__law_papers) (var_ok (i := 10) (d := .int (f : Int)) (ρ := [some n, some (.lst 1), some (.bl b), some (.lst lv), some (.lst lg), b5, b6, some (.lst lh), some w, b9, some (.int (f : Int))]) rfl) (add_ok (var_ok (i := 10) (d := .int (f : Int)) rfl) (c_ok (d := .int 3)))).trans p12) ((call2 (F := rf__law_errors) (var_ok (i := 10) (d := .int (f : Int)) rfl) (add_ok (var_ok (i := 10) (d := .int (f : Int)) rfl) (c_ok (d := .int 3)))).trans p13)
  exact ⟨S13, congrArg flowRes (ret_ret fin)⟩
end LawM
end
section
set_option Elab.async false
set_option linter.all false
set_option maxRecDepth 100000
set_option maxHeartbeats 4000000
namespace LawM
open PySem PySem.Spec PyProof.Rows L2 MP
variable {P : Program} {w : World} {K : PySem.W.Frag} {mg : Str → Option Value} {base : Heap}
theorem sc_is_integer : FnScope N_is_integer ["thing"] (defScope s_is_integer) := ⟨rfl, rfl, rfl, by decide +kernel, rfl, by decide +kernel, by decide +kernel⟩
theorem ok_is_integer (Z : Ft P w K mg base) : OkD P w K mg base 1 "is_integer" s_is_integer ["thing"] rf_is_integer := okd Z.g_is_integer Z.f_is_integer sc_is_integer (fun _ _ _ _ _ _ us hl => match us, hl with | [_], _ => rfl) (fun cdv A outer s H E hr =>
 (mss_one (ms_ret (me_and (me_isi (T := "int") (me_var 0) Z.fr_isinstance Z.fr_int) (me_one (me_not (me_isi (T := "bool") (me_var 0) Z.fr_isinstance Z.fr_bool)))))))
theorem sc_is_quotient : FnScope N_is_quotient ["thing"] (defScope s_is_quotient) := ⟨rfl, rfl, rfl, by decide +kernel, rfl, by decide +kernel, by decide +kernel⟩
theorem ok_is_quotient (Z : Ft P w K mg base) : OkD P w K mg base 2 "is_quotient" s_is_quotient ["thing"] rf_is_quotient := okd Z.g_is_quotient Z.f_is_quotient sc_is_quotient (fun _ _ _ _ _ _ us hl => match us, hl with | [_], _ => rfl) (fun cdv A outer s H E hr =>
 (mss_cons (ms_if (mw_pt (mw_or (mt_not (mt_val (me_isi (T := "tuple") (me_var 0) Z.fr_isinstance Z.fr_tuple))) (mw_or1 (mt_cmp (od_ne (Room.u64 hr)) (me_callB cd_len (ma_cons (me_var 0) ma_nil) Z.fr_len) me_int))))
 (mss_one (ms_ret me_bl))
 mss_nil)
 (mss_cons (ms_bind (me_var 0) (mg_tup (mgs_cons (mg_name 1) (mgs_cons (mg_name 2) mgs_nil))))
 (mss_cons (ms_if (mw_pt (mw_or (mt_not (mt_val (me_fn (ok_is_integer Z) (hr.mono (by decide)) (ma_cons (me_var 1) ma_nil)))) (mw_or1 (mt_not (mt_val (me_fn (ok_is_integer Z) (hr.mono (by decide)) (ma_cons (me_var 2) ma_nil)))))))
 (mss_one (ms_ret me_bl))
 mss_nil)
 (mss_one (ms_ret (me_and (me_cmp od_ge (me_var 2) me_int) (me_one (me_cmp (od_eq (Room.u64 hr)) (me_callBf cd_gcd (ma_cons (me_var 1) (ma_cons (me_var 2) ma_nil)) Z.bl_gcd) me_int)))))))))
theorem sc_is_positive : FnScope N_is_positive ["thing"] (defScope s_is_positive) := ⟨rfl, rfl, rfl, by decide +kernel, rfl, by decide +kernel, by decide +kernel⟩
theorem ok_is_positive (Z : Ft P w K mg base) : OkD P w K mg base 3 "is_positive" s_is_positive ["thing"] rf_is_positive := okd Z.g_is_positive Z.f_is_positive sc_is_positive (fun _ _ _ _ _ _ us hl => match us, hl with | [_], _ => rfl) (fun cdv A outer s H E hr =>
 (mss_one (ms_ret (me_and (me_fn (ok_is_quotient Z) (hr.mono (by decide)) (ma_cons (me_var 0) ma_nil)) (me_one (me_cmp od_gt (me_ix ixd (me_var 0) me_int) me_int))))))
theorem sc__need_number : FnScope N__need_number ["many"] (defScope s__need_number) := ⟨rfl, rfl, rfl, by decide +kernel, rfl, by decide +kernel, by decide +kernel⟩
theorem ok__need_number (Z : Ft P w K mg base) : OkD P w K mg base 3 "_need_number" s__need_number ["many"] rf__need_number := okd Z.g__need_number Z.f__need_number sc__need_number (fun _ _ _ _ _ _ us hl => match us, hl with | [_], _ => rfl) (fun cdv A outer s H E hr =>
 (mss_one (ms_if (mw_pt (mw_or (mt_not (mt_val (me_fn (ok_is_integer Z) (hr.mono (by decide)) (ma_cons (me_var 0) ma_nil)))) (mw_or1 (mt_cmp od_lt (me_var 0) me_int))))
 (mss_one (ms_err Z.e_NotUsable (hr.mono (by decide)) (ma_cons me_str (ma_cons (me_un ud_neg me_int) ma_nil))))
 mss_nil)))
theorem sc_is_shapes : FnScope N_is_shapes ["many", "thing"] (defScope s_is_shapes) := ⟨rfl, rfl, rfl, by decide +kernel, rfl, by decide +kernel, by decide +kernel⟩
theorem ok_is_shapes (Z : Ft P w K mg base) : OkD P w K mg base 4 "is_shapes" s_is_shapes ["many", "thing"] rf_is_shapes := okd Z.g_is_shapes Z.f_is_shapes sc_is_shapes (fun _ _ _ _ _ _ us hl => match us, hl with | [_, _], _ => rfl) (fun cdv A outer s H E hr =>
 (mss_cons (ms_expr (me_fn (ok__need_number Z) (hr.mono (by decide)) (ma_cons (me_var 0) ma_nil)))
 (mss_cons (ms_if (mw_pt (mw_or (mt_not (mt_val (me_isi (T := "tuple") (me_var 1) Z.fr_isinstance Z.fr_tuple))) (mw_or1 (mt_cmp (od_ne (Room.u64 hr)) (me_callB cd_len (ma_cons (me_var 1) ma_nil) Z.fr_len) (me_var 0)))))
 (mss_one (ms_ret me_bl))
 mss_nil)
 (mss_one (ms_ret (me_callB (cd_all rfl) (ma_cons (me_lc (own := [("shape", 2)]) (mi_seq (me_var 1)) (blkOk_by (N := N_is_shapes) (sc := defScope s_is_shapes) (by decide +kernel)) (fun _ _ _ _ _ => (mg_name 2)) (fun _ _ _ _ _ => mts_nil) (fun _ _ _ _ _ => (me_fn (ok_is_positive Z) (hr.mono (by decide)) (ma_cons (me_var 2) ma_nil))) (by decide)) ma_nil) Z.fr_all))))))
theorem sc_is_table : FnScope N_is_table ["many", "thing"] (defScope s_is_table) := ⟨rfl, rfl, rfl, by decide +kernel, rfl, by decide +kernel, by decide +kernel⟩
theorem ok_is_table (Z : Ft P w K mg base) : OkD P w K mg base 4 "is_table" s_is_table ["many", "thing"] rf_is_table := okd Z.g_is_table Z.f_is_table sc_is_table (fun _ _ _ _ _ _ us hl => match us, hl with | [_, _], _ => rfl) (fun cdv A outer s H E hr =>
 (mss_cons (ms_expr (me_fn (ok__need_number Z) (hr.mono (by decide)) (ma_cons (me_var 0) ma_nil)))
 (mss_cons (ms_if (mw_pt (mw_or (mt_not (mt_val (me_isi (T := "tuple") (me_var 1) Z.fr_isinstance Z.fr_tuple))) (mw_or1 (mt_cmp (od_ne (Room.u64 hr)) (me_callB cd_len (ma_cons (me_var 1) ma_nil) Z.fr_len) (me_var 0)))))
 (mss_one (ms_ret me_bl))
 mss_nil)
 (mss_one (ms_ret (me_callB (cd_all rfl) (ma_cons (me_lc (own := [("entry", 2)]) (mi_seq (me_var 1)) (blkOk_by (N := N_is_table) (sc := defScope s_is_table) (by decide +kernel)) (fun _ _ _ _ _ => (mg_name 2)) (fun _ _ _ _ _ => mts_nil) (fun _ _ _ _ _ => (me_and (me_fn (ok_is_quotient Z) (hr.mono (by decide)) (ma_cons (me_var 2) ma_nil)) (me_one (me_cmp od_ge (me_ix ixd (me_var 2) me_int) me_int)))) (by decide)) ma_nil) Z.fr_all))))))
theorem sc__need_side : FnScope N__need_side ["side"] (defScope s__need_side) := ⟨rfl, rfl, rfl, by decide +kernel, rfl, by decide +kernel, by decide +kernel⟩
theorem ok__need_side (Z : Ft P w K mg base) : OkD P w K mg base 3 "_need_side" s__need_side ["side"] rf__need_side := okd Z.g__need_side Z.f__need_side sc__need_side (fun _ _ _ _ _ _ us hl => match us, hl with | [_], _ => rfl) (fun cdv A outer s H E hr =>
 (mss_one (ms_if (mw_pt (mw_or (mt_not (mt_val (me_fn (ok_is_integer Z) (hr.mono (by decide)) (ma_cons (me_var 0) ma_nil)))) (mw_or1 (mt_not (mt_chain od_le od_le (me_un ud_neg me_int) (me_var 0) (me_un ud_neg me_int))))))
 (mss_one (ms_err Z.e_NotUsable (hr.mono (by decide)) (ma_cons me_str (ma_cons (me_un ud_neg me_int) ma_nil))))
 mss_nil)))
theorem sc_side_after : FnScope N_side_after ["side"] (defScope s_side_after) := ⟨rfl, rfl, rfl, by decide +kernel, rfl, by decide +kernel, by decide +kernel⟩
theorem ok_side_after (Z : Ft P w K mg base) : OkD P w K mg base 4 "side_after" s_side_after ["side"] rf_side_after := okd Z.g_side_after Z.f_side_after sc_side_after (fun _ _ _ _ _ _ us hl => match us, hl with | [_], _ => rfl) (fun cdv A outer s H E hr =>
 (mss_cons (ms_expr (me_fn (ok__need_side Z) (hr.mono (by decide)) (ma_cons (me_var 0) ma_nil)))
 (mss_one (ms_ret (me_if (mt_cmp (od_eq (Room.u64 hr)) (me_var 0) (me_un ud_neg me_int)) (me_un ud_neg me_int) (me_bin od_add (me_var 0) me_int))))))
theorem sc_side_opposite : FnScope N_side_opposite ["side"] (defScope s_side_opposite) := ⟨rfl, rfl, rfl, by decide +kernel, rfl, by decide +kernel, by decide +kernel⟩
theorem ok_side_opposite (Z : Ft P w K mg base) : OkD P w K mg base 4 "side_opposite" s_side_opposite ["side"] rf_side_opposite := okd Z.g_side_opposite Z.f_side_opposite sc_side_opposite (fun _ _ _ _ _ _ us hl => match us, hl with | [_], _ => rfl) (fun cdv A outer s H E hr =>
 (mss_cons (ms_expr (me_fn (ok__need_side Z) (hr.mono (by decide)) (ma_cons (me_var 0) ma_nil)))
 (mss_one (ms_ret (me_if (mt_cmp od_lt (me_var 0) (me_un ud_neg me_int)) (me_bin od_add (me_var 0) me_int) (me_bin od_sub (me_var 0) me_int))))))
theorem sc_is_place : FnScope N_is_place ["many", "thing"] (defScope s_is_place) := ⟨rfl, rfl, rfl, by decide +kernel, rfl, by decide +kernel, by decide +kernel⟩
theorem ok_is_place (Z : Ft P w K mg base) : OkD P w K mg base 3 "is_place" s_is_place ["many", "thing"] rf_is_place := okd Z.g_is_place Z.f_is_place sc_is_place (fun _ _ _ _ _ _ us hl => match us, hl with | [_, _], _ => rfl) (fun cdv A outer s H E hr =>
 (mss_cons (ms_if (mw_pt (mw_or (mt_not (mt_val (me_fn (ok_is_integer Z) (hr.mono (by decide)) (ma_cons (me_var 0) ma_nil)))) (mw_or1 (mt_cmp od_lt (me_var 0) me_int))))
 (mss_one (ms_err Z.e_NotUsable (hr.mono (by decide)) (ma_cons me_str (ma_cons (me_un ud_neg me_int) ma_nil))))
 mss_nil)
 (mss_one (ms_ret (me_and (me_fn (ok_is_integer Z) (hr.mono (by decide)) (ma_cons (me_var 1) ma_nil)) (me_one (me_chain od_le od_lt (me_un ud_neg me_int) (me_var 1) (me_var 0))))))))
theorem sc_place_letter : FnScope N_place_letter ["place"] (defScope s_place_letter) := ⟨rfl, rfl, rfl, by decide +kernel, rfl, by decide +kernel, by decide +kernel⟩
theorem ok_place_letter (Z : Ft P w K mg base) : OkD P w K mg base 3 "place_letter" s_place_letter ["place"] rf_place_letter := okd Z.g_place_letter Z.f_place_letter sc_place_letter (fun _ _ _ _ _ _ us hl => match us, hl with | [_], _ => rfl) (fun cdv A outer s H E hr =>
 (mss_cons (ms_if (mw_pt (mw_or (mt_not (mt_val (me_fn (ok_is_integer Z) (hr.mono (by decide)) (ma_cons (me_var 0) ma_nil)))) (mw_or1 (mt_cmp od_lt (me_var 0) (me_un ud_neg me_int)))))
 (mss_one (ms_err Z.e_NotUsable (hr.mono (by decide)) (ma_cons me_str (ma_cons (me_un ud_neg me_int) ma_nil))))
 mss_nil)
 (mss_one (ms_ret (me_if (mt_cmp od_lt (me_var 0) me_int) (me_ix ixd (me_cst Z.k_LETTERS) (me_bin od_add (me_var 0) me_int)) (me_callTy cd_str (ma_cons (me_var 0) ma_nil) Z.fr_str))))))
theorem sc_settle : FnScope N_settle ["top", "bottom"] (defScope s_settle) := ⟨rfl, rfl, rfl, by decide +kernel, rfl, by decide +kernel, by decide +kernel⟩
theorem ok_settle (Z : Ft P w K mg base) : OkD P w K mg base 1 "settle" s_settle ["top", "bottom"] rf_settle := okd Z.g_settle Z.f_settle sc_settle (fun _ _ _ _ _ _ us hl => match us, hl with | [_, _], _ => rfl) (fun cdv A outer s H E hr =>
 (mss_cons (ms_set 2 (me_callBf cd_gcd (ma_cons (me_var 0) (ma_cons (me_var 1) ma_nil)) Z.bl_gcd))
 (mss_cons (ms_if (mt_cmp od_lt (me_var 1) me_int)
 (mss_one (ms_set 2 (me_un ud_neg (me_var 2))))
 mss_nil)
 (mss_one (ms_ret (me_tup (ma_cons (me_bin od_div (me_var 0) (me_var 2)) (ma_cons (me_bin od_div (me_var 1) (me_var 2)) ma_nil))))))))
theorem sc__need_two : FnScope N__need_two ["one", "other"] (defScope s__need_two) := ⟨rfl, rfl, rfl, by decide +kernel, rfl, by decide +kernel, by decide +kernel⟩
theorem ok__need_two (Z : Ft P w K mg base) : OkD P w K mg base 3 "_need_two" s__need_two ["one", "other"] rf__need_two := okd Z.g__need_two Z.f__need_two sc__need_two (fun _ _ _ _ _ _ us hl => match us, hl with | [_, _], _ => rfl) (fun cdv A outer s H E hr =>
 (mss_cons (ms_if (mt_not (mt_val (me_fn (ok_is_quotient Z) (hr.mono (by decide)) (ma_cons (me_var 0) ma_nil))))
 (mss_one (ms_err Z.e_NotUsable (hr.mono (by decide)) (ma_cons me_str (ma_cons (me_un ud_neg me_int) ma_nil))))
 mss_nil)
 (mss_one (ms_if (mt_not (mt_val (me_fn (ok_is_quotient Z) (hr.mono (by decide)) (ma_cons (me_var 1) ma_nil))))
 (mss_one (ms_err Z.e_NotUsable (hr.mono (by decide)) (ma_cons me_str (ma_cons (me_un ud_neg me_int) ma_nil))))
 mss_nil))))
theorem sc_plus : FnScope N_plus ["one", "other"] (defScope s_plus) := ⟨rfl, rfl, rfl, by decide +kernel, rfl, by decide +kernel, by decide +kernel⟩
theorem ok_plus (Z : Ft P w K mg base) : OkD P w K mg base 4 "plus" s_plus ["one", "other"] rf_plus := okd Z.g_plus Z.f_plus sc_plus (fun _ _ _ _ _ _ us hl => match us, hl with | [_, _], _ => rfl) (fun cdv A outer s H E hr =>
 (mss_cons (ms_expr (me_fn (ok__need_two Z) (hr.mono (by decide)) (ma_cons (me_var 0) (ma_cons (me_var 1) ma_nil))))
 (mss_one (ms_ret (me_fn (ok_settle Z) (hr.mono (by decide)) (ma_cons (me_bin od_add (me_bin od_mul (me_ix ixd (me_var 0) me_int) (me_ix ixd (me_var 1) me_int)) (me_bin od_mul (me_ix ixd (me_var 1) me_int) (me_ix ixd (me_var 0) me_int))) (ma_cons (me_bin od_mul (me_ix ixd (me_var 0) me_int) (me_ix ixd (me_var 1) me_int)) ma_nil)))))))
theorem sc_minus : FnScope N_minus ["one", "other"] (defScope s_minus) := ⟨rfl, rfl, rfl, by decide +kernel, rfl, by decide +kernel, by decide +kernel⟩
theorem ok_minus (Z : Ft P w K mg base) : OkD P w K mg base 4 "minus" s_minus ["one", "other"] rf_minus := okd Z.g_minus Z.f_minus sc_minus (fun _ _ _ _ _ _ us hl => match us, hl with | [_, _], _ => rfl) (fun cdv A outer s H E hr =>
 (mss_cons (ms_expr (me_fn (ok__need_two Z) (hr.mono (by decide)) (ma_cons (me_var 0) (ma_cons (me_var 1) ma_nil))))
 (mss_one (ms_ret (me_fn (ok_settle Z) (hr.mono (by decide)) (ma_cons (me_bin od_sub (me_bin od_mul (me_ix ixd (me_var 0) me_int) (me_ix ixd (me_var 1) me_int)) (me_bin od_mul (me_ix ixd (me_var 1) me_int) (me_ix ixd (me_var 0) me_int))) (ma_cons (me_bin od_mul (me_ix ixd (me_var 0) me_int) (me_ix ixd (me_var 1) me_int)) ma_nil)))))))
theorem sc_times : FnScope N_times ["one", "other"] (defScope s_times) := ⟨rfl, rfl, rfl, by decide +kernel, rfl, by decide +kernel, by decide +kernel⟩
theorem ok_times (Z : Ft P w K mg base) : OkD P w K mg base 4 "times" s_times ["one", "other"] rf_times := okd Z.g_times Z.f_times sc_times (fun _ _ _ _ _ _ us hl => match us, hl with | [_, _], _ => rfl) (fun cdv A outer s H E hr =>
 (mss_cons (ms_expr (me_fn (ok__need_two Z) (hr.mono (by decide)) (ma_cons (me_var 0) (ma_cons (me_var 1) ma_nil))))
 (mss_one (ms_ret (me_fn (ok_settle Z) (hr.mono (by decide)) (ma_cons (me_bin od_mul (me_ix ixd (me_var 0) me_int) (me_ix ixd (me_var 1) me_int)) (ma_cons (me_bin od_mul (me_ix ixd (me_var 0) me_int) (me_ix ixd (me_var 1) me_int)) ma_nil)))))))
theorem sc_over : FnScope N_over ["one", "other"] (defScope s_over) := ⟨rfl, rfl, rfl, by decide +kernel, rfl, by decide +kernel, by decide +kernel⟩
theorem ok_over (Z : Ft P w K mg base) : OkD P w K mg base 4 "over" s_over ["one", "other"] rf_over := okd Z.g_over Z.f_over sc_over (fun _ _ _ _ _ _ us hl => match us, hl with | [_, _], _ => rfl) (fun cdv A outer s H E hr =>
 (mss_cons (ms_expr (me_fn (ok__need_two Z) (hr.mono (by decide)) (ma_cons (me_var 0) (ma_cons (me_var 1) ma_nil))))
 (mss_cons (ms_if (mt_cmp (od_eq (Room.u64 hr)) (me_ix ixd (me_var 1) me_int) me_int)
 (mss_one (ms_err Z.e_NotUsable (hr.mono (by decide)) (ma_cons me_str (ma_cons (me_un ud_neg me_int) ma_nil))))
 mss_nil)
 (mss_one (ms_ret (me_fn (ok_settle Z) (hr.mono (by decide)) (ma_cons (me_bin od_mul (me_ix ixd (me_var 0) me_int) (me_ix ixd (me_var 1) me_int)) (ma_cons (me_bin od_mul (me_ix ixd (me_var 0) me_int) (me_ix ixd (me_var 1) me_int)) ma_nil))))))))
theorem sc_is_less : FnScope N_is_less ["one", "other"] (defScope s_is_less) := ⟨rfl, rfl, rfl, by decide +kernel, rfl, by decide +kernel, by decide +kernel⟩
theorem ok_is_less (Z : Ft P w K mg base) : OkD P w K mg base 4 "is_less" s_is_less ["one", "other"] rf_is_less := okd Z.g_is_less Z.f_is_less sc_is_less (fun _ _ _ _ _ _ us hl => match us, hl with | [_, _], _ => rfl) (fun cdv A outer s H E hr =>
 (mss_cons (ms_expr (me_fn (ok__need_two Z) (hr.mono (by decide)) (ma_cons (me_var 0) (ma_cons (me_var 1) ma_nil))))
 (mss_one (ms_ret (me_cmp od_lt (me_bin od_mul (me_ix ixd (me_var 0) me_int) (me_ix ixd (me_var 1) me_int)) (me_bin od_mul (me_ix ixd (me_var 1) me_int) (me_ix ixd (me_var 0) me_int)))))))
theorem sc__law_mixed : FnScope N__law_mixed ["_law_cell", "_law_tick"] (defScope s__law_mixed) := ⟨rfl, rfl, rfl, by decide +kernel, rfl, by decide +kernel, by decide +kernel⟩
theorem ok__law_mixed (Z : Ft P w K mg base) : OkD P w K mg base 1 "_law_mixed" s__law_mixed ["_law_cell", "_law_tick"] rf__law_mixed := okd Z.g__law_mixed Z.f__law_mixed sc__law_mixed (fun _ _ _ _ _ _ us hl => match us, hl with | [_, _], _ => rfl) (fun cdv A outer s H E hr =>
 (mss_cons (ms_set 2 (me_bin od_mod (me_callTy cd_int (ma_cons (me_bin od_add (me_bin od_add (me_bin od_mul (me_var 0) me_int) (me_bin od_mul (me_var 1) me_int)) me_int) ma_nil) Z.fr_int) me_int))
 (mss_cons (ms_set 3 (me_bin od_mod (me_callTy cd_int (ma_cons (me_bin od_add (me_bin od_add (me_bin od_mul (me_var 2) (me_var 2)) (me_bin od_mul (me_var 1) me_int)) me_int) ma_nil) Z.fr_int) me_int))
 (mss_cons (ms_set 4 (me_bin od_mod (me_callTy cd_int (ma_cons (me_bin od_add (me_bin od_add (me_bin od_div (me_bin od_mul (me_var 3) (me_var 3)) me_int) (me_bin od_mul (me_var 3) me_int)) (me_var 1)) ma_nil) Z.fr_int) me_int))
 (mss_one (ms_ret (me_bin od_div (me_var 4) me_int)))))))
theorem sc__law_pool : FnScope N__law_pool ["_law_script"] (defScope s__law_pool) := ⟨rfl, rfl, rfl, by decide +kernel, rfl, by decide +kernel, by decide +kernel⟩
theorem ok__law_pool (Z : Ft P w K mg base) : OkD P w K mg base 1 "_law_pool" s__law_pool ["_law_script"] rf__law_pool := okd Z.g__law_pool Z.f__law_pool sc__law_pool (fun _ _ _ _ _ _ us hl => match us, hl with | [_], _ => rfl) (fun cdv A outer s H E hr =>
 (mss_cons (ms_set 1 me_int)
 (mss_cons (ms_for (mi_seq (me_var 0)) (mg_name 2)
 (mss_one (ms_set 1 (me_bin od_mod (me_callTy cd_int (ma_cons (me_bin od_add (me_bin od_add (me_bin od_mul (me_var 1) me_int) (me_bin od_mul (me_var 2) me_int)) me_int) ma_nil) Z.fr_int) me_int))))
 (mss_one (ms_ret (me_lst (ma_cons (me_callTy cd_list (ma_cons (me_var 0) ma_nil) Z.fr_list) (ma_cons me_int (ma_cons me_int (ma_cons (me_var 1) (ma_cons (me_callB cd_len (ma_cons (me_var 0) ma_nil) Z.fr_len) ma_nil)))))))))))
theorem sc__law_take : FnScope N__law_take ["_law_pool_here", "_law_size"] (defScope s__law_take) := ⟨rfl, rfl, rfl, by decide +kernel, rfl, by decide +kernel, by decide +kernel⟩
theorem ok__law_take (Z : Ft P w K mg base) : OkD P w K mg base 2 "_law_take" s__law_take ["_law_pool_here", "_law_size"] rf__law_take := okd Z.g__law_take Z.f__law_take sc__law_take (fun _ _ _ _ _ _ us hl => match us, hl with | [_, _], _ => rfl) (fun cdv A outer s H E hr =>
 (mss_cons (ms_if (mt_cmp (od_eq (Room.u64 hr)) (me_ix ixd (me_var 0) me_int) me_int)
 (mss_one (ms_ret me_int))
 mss_nil)
 (mss_cons (ms_if (mw_pt (mw_and (mt_cmp (od_eq (Room.u64 hr)) (me_ix ixd (me_var 0) me_int) me_int) (mw_and1 (mt_cmp od_gt (me_callB cd_len (ma_cons (me_ix ixd (me_var 0) me_int) ma_nil) Z.fr_len) me_int))))
 (mss_cons (ms_set 2 (me_callB cd_abs (ma_cons (me_bm F.slot_list_pop rfl md_popAt (me_ix ixd (me_var 0) me_int) (ma_cons me_int ma_nil)) ma_nil) Z.fr_abs))
 (mss_cons (ms_if (mt_cmp od_lt (me_var 2) (me_bin od_pow me_int me_int))
 (mss_cons (ms_sub sd_list (me_bin od_add (me_ix ixd (me_var 0) me_int) me_int) (me_var 0) me_int)
 (mss_one (ms_ret (me_bin od_mod (me_callTy cd_int (ma_cons (me_fn (ok__law_mixed Z) (hr.mono (by decide)) (ma_cons (me_var 2) (ma_cons (me_ix ixd (me_var 0) me_int) ma_nil))) ma_nil) Z.fr_int) (me_var 1)))))
 mss_nil)
 (mss_one (ms_sub sd_list (me_bin od_mod (me_callTy cd_int (ma_cons (me_var 2) ma_nil) Z.fr_int) (me_bin od_mul (me_bin od_mul (me_bin od_pow me_int me_int) (me_bin od_pow me_int me_int)) (me_bin od_pow me_int me_int))) (me_var 0) me_int))))
 mss_nil)
 (mss_cons (ms_if (mt_cmp od_gt (me_ix ixd (me_var 0) me_int) me_int)
 (mss_cons (ms_set 3 (me_bin od_mod (me_callTy cd_int (ma_cons (me_ix ixd (me_var 0) me_int) ma_nil) Z.fr_int) (me_var 1)))
 (mss_cons (ms_sub sd_list (me_bin od_div (me_ix ixd (me_var 0) me_int) (me_var 1)) (me_var 0) me_int)
 (mss_one (ms_ret (me_var 3)))))
 mss_nil)
 (mss_cons (ms_sub sd_list (me_bin od_add (me_ix ixd (me_var 0) me_int) me_int) (me_var 0) me_int)
 (mss_one (ms_ret (me_bin od_mod (me_callTy cd_int (ma_cons (me_fn (ok__law_mixed Z) (hr.mono (by decide)) (ma_cons (me_ix ixd (me_var 0) me_int) (ma_cons (me_ix ixd (me_var 0) me_int) ma_nil))) ma_nil) Z.fr_int) (me_var 1)))))))))
theorem sc__law_whole : FnScope N__law_whole ["_law_value_here"] (defScope s__law_whole) := ⟨rfl, rfl, rfl, by decide +kernel, rfl, by decide +kernel, by decide +kernel⟩
theorem ok__law_whole (Z : Ft P w K mg base) : OkD P w K mg base 1 "_law_whole" s__law_whole ["_law_value_here"] rf__law_whole := okd Z.g__law_whole Z.f__law_whole sc__law_whole (fun _ _ _ _ _ _ us hl => match us, hl with | [_], _ => rfl) (fun cdv A outer s H E hr =>
 (mss_one (ms_ret (me_and (me_isi (T := "int") (me_var 0) Z.fr_isinstance Z.fr_int) (me_one (me_not (me_isi (T := "bool") (me_var 0) Z.fr_isinstance Z.fr_bool)))))))
theorem sc__law_common : FnScope N__law_common ["_law_high", "_law_low_here"] (defScope s__law_common) := ⟨rfl, rfl, rfl, by decide +kernel, rfl, by decide +kernel, by decide +kernel⟩
theorem ok__law_common (Z : Ft P w K mg base) : OkD P w K mg base 1 "_law_common" s__law_common ["_law_high", "_law_low_here"] rf__law_common := okd Z.g__law_common Z.f__law_common sc__law_common (fun _ _ _ _ _ _ us hl => match us, hl with | [_, _], _ => rfl) (fun cdv A outer s H E hr =>
 (mss_cons (ms_while (mt_cmp (od_ne (Room.u64 hr)) (me_var 1) me_int)
 (mss_one (ms_par 0 1 (me_var 1) (me_bin od_mod (me_callTy cd_int (ma_cons (me_var 0) ma_nil) Z.fr_int) (me_var 1)))))
 (mss_one (ms_ret (me_var 0)))))
theorem sc__law_low : FnScope N__law_low ["_law_top", "_law_bottom"] (defScope s__law_low) := ⟨rfl, rfl, rfl, by decide +kernel, rfl, by decide +kernel, by decide +kernel⟩
theorem ok__law_low (Z : Ft P w K mg base) : OkD P w K mg base 2 "_law_low" s__law_low ["_law_top", "_law_bottom"] rf__law_low := okd Z.g__law_low Z.f__law_low sc__law_low (fun _ _ _ _ _ _ us hl => match us, hl with | [_, _], _ => rfl) (fun cdv A outer s H E hr =>
 (mss_cons (ms_set 2 (me_fn (ok__law_common Z) (hr.mono (by decide)) (ma_cons (me_callB cd_abs (ma_cons (me_var 0) ma_nil) Z.fr_abs) (ma_cons (me_var 1) ma_nil))))
 (mss_one (ms_ret (me_tup (ma_cons (me_bin od_div (me_var 0) (me_var 2)) (ma_cons (me_bin od_div (me_var 1) (me_var 2)) ma_nil)))))))
theorem sc__law_quotient : FnScope N__law_quotient ["_law_value_here"] (defScope s__law_quotient) := ⟨rfl, rfl, rfl, by decide +kernel, rfl, by decide +kernel, by decide +kernel⟩
theorem ok__law_quotient (Z : Ft P w K mg base) : OkD P w K mg base 2 "_law_quotient" s__law_quotient ["_law_value_here"] rf__law_quotient := okd Z.g__law_quotient Z.f__law_quotient sc__law_quotient (fun _ _ _ _ _ _ us hl => match us, hl with | [_], _ => rfl) (fun cdv A outer s H E hr =>
 (mss_cons (ms_if (mw_pt (mw_or (mt_not (mt_val (me_isi (T := "tuple") (me_var 0) Z.fr_isinstance Z.fr_tuple))) (mw_or1 (mt_cmp (od_ne (Room.u64 hr)) (me_callB cd_len (ma_cons (me_var 0) ma_nil) Z.fr_len) me_int))))
 (mss_one (ms_ret me_bl))
 mss_nil)
 (mss_cons (ms_if (mw_pt (mw_or (mt_not (mt_val (me_fn (ok__law_whole Z) (hr.mono (by decide)) (ma_cons (me_ix ixd (me_var 0) me_int) ma_nil)))) (mw_or (mt_not (mt_val (me_fn (ok__law_whole Z) (hr.mono (by decide)) (ma_cons (me_ix ixd (me_var 0) me_int) ma_nil)))) (mw_or1 (mt_cmp od_lt (me_ix ixd (me_var 0) me_int) me_int)))))
 (mss_one (ms_ret me_bl))
 mss_nil)
 (mss_one (ms_ret (me_cmp (od_eq (Room.u64 hr)) (me_fn (ok__law_common Z) (hr.mono (by decide)) (ma_cons (me_callB cd_abs (ma_cons (me_ix ixd (me_var 0) me_int) ma_nil) Z.fr_abs) (ma_cons (me_ix ixd (me_var 0) me_int) ma_nil))) me_int))))))
theorem sc__law_small : FnScope N__law_small ["_law_pool_here"] (defScope s__law_small) := ⟨rfl, rfl, rfl, by decide +kernel, rfl, by decide +kernel, by decide +kernel⟩
theorem ok__law_small (Z : Ft P w K mg base) : OkD P w K mg base 3 "_law_small" s__law_small ["_law_pool_here"] rf__law_small := okd Z.g__law_small Z.f__law_small sc__law_small (fun _ _ _ _ _ _ us hl => match us, hl with | [_], _ => rfl) (fun cdv A outer s H E hr =>
 (mss_one (ms_ret (me_fn (ok__law_low Z) (hr.mono (by decide)) (ma_cons (me_bin od_sub (me_fn (ok__law_take Z) (hr.mono (by decide)) (ma_cons (me_var 0) (ma_cons me_int ma_nil))) me_int) (ma_cons (me_bin od_add me_int (me_fn (ok__law_take Z) (hr.mono (by decide)) (ma_cons (me_var 0) (ma_cons me_int ma_nil)))) ma_nil))))))
theorem sc__law_great : FnScope N__law_great ["_law_pool_here"] (defScope s__law_great) := ⟨rfl, rfl, rfl, by decide +kernel, rfl, by decide +kernel, by decide +kernel⟩
theorem ok__law_great (Z : Ft P w K mg base) : OkD P w K mg base 3 "_law_great" s__law_great ["_law_pool_here"] rf__law_great := okd Z.g__law_great Z.f__law_great sc__law_great (fun _ _ _ _ _ _ us hl => match us, hl with | [_], _ => rfl) (fun cdv A outer s H E hr =>
 (mss_cons (ms_set 1 (me_lst (ma_cons (me_bin od_pow me_int me_int) (ma_cons (me_bin od_pow me_int me_int) (ma_cons (me_bin od_pow me_int me_int) (ma_cons (me_bin od_pow me_int me_int) ma_nil))))))
 (mss_cons (ms_set 2 (me_bin od_add (me_ix ixd (me_var 1) (me_fn (ok__law_take Z) (hr.mono (by decide)) (ma_cons (me_var 0) (ma_cons me_int ma_nil)))) (me_fn (ok__law_take Z) (hr.mono (by decide)) (ma_cons (me_var 0) (ma_cons me_int ma_nil)))))
 (mss_cons (ms_if (mt_cmp (od_eq (Room.u64 hr)) (me_fn (ok__law_take Z) (hr.mono (by decide)) (ma_cons (me_var 0) (ma_cons me_int ma_nil))) me_int)
 (mss_one (ms_ret (me_bin od_sub me_int (me_var 2))))
 mss_nil)
 (mss_one (ms_ret (me_var 2)))))))
theorem sc__law_value : FnScope N__law_value ["_law_pool_here"] (defScope s__law_value) := ⟨rfl, rfl, rfl, by decide +kernel, rfl, by decide +kernel, by decide +kernel⟩
theorem ok__law_value (Z : Ft P w K mg base) : OkD P w K mg base 4 "_law_value" s__law_value ["_law_pool_here"] rf__law_value := okd Z.g__law_value Z.f__law_value sc__law_value (fun _ _ _ _ _ _ us hl => match us, hl with | [_], _ => rfl) (fun cdv A outer s H E hr =>
 (mss_cons (ms_set 1 (me_fn (ok__law_take Z) (hr.mono (by decide)) (ma_cons (me_var 0) (ma_cons me_int ma_nil))))
 (mss_cons (ms_if (mt_cmp od_lt (me_var 1) me_int)
 (mss_one (ms_ret (me_fn (ok__law_small Z) (hr.mono (by decide)) (ma_cons (me_var 0) ma_nil))))
 mss_nil)
 (mss_cons (ms_if (mt_cmp (od_eq (Room.u64 hr)) (me_var 1) me_int)
 (mss_one (ms_ret (me_fn (ok__law_low Z) (hr.mono (by decide)) (ma_cons (me_fn (ok__law_great Z) (hr.mono (by decide)) (ma_cons (me_var 0) ma_nil)) (ma_cons (me_callB cd_abs (ma_cons (me_fn (ok__law_great Z) (hr.mono (by decide)) (ma_cons (me_var 0) ma_nil)) ma_nil) Z.fr_abs) ma_nil)))))
 mss_nil)
 (mss_cons (ms_if (mt_cmp (od_eq (Room.u64 hr)) (me_var 1) me_int)
 (mss_one (ms_ret (me_tup (ma_cons (me_bin od_sub (me_fn (ok__law_take Z) (hr.mono (by decide)) (ma_cons (me_var 0) (ma_cons me_int ma_nil))) me_int) (ma_cons (me_bin od_sub (me_fn (ok__law_take Z) (hr.mono (by decide)) (ma_cons (me_var 0) (ma_cons me_int ma_nil))) me_int) ma_nil)))))
 mss_nil)
 (mss_cons (ms_if (mt_cmp (od_eq (Room.u64 hr)) (me_var 1) me_int)
 (mss_one (ms_ret (me_ix ixd (me_lst (ma_cons (me_tup (ma_cons me_bl (ma_cons me_int ma_nil))) (ma_cons (me_tup (ma_cons me_int (ma_cons me_bl ma_nil))) (ma_cons (me_tup (ma_cons me_bl (ma_cons me_int ma_nil))) (ma_cons (me_tup (ma_cons me_int (ma_cons me_bl ma_nil))) (ma_cons (me_tup (ma_cons me_int (ma_cons me_bl ma_nil))) (ma_cons (me_tup (ma_cons me_bl (ma_cons me_int ma_nil))) ma_nil))))))) (me_fn (ok__law_take Z) (hr.mono (by decide)) (ma_cons (me_var 0) (ma_cons me_int ma_nil))))))
 mss_nil)
 (mss_cons (ms_if (mt_cmp (od_eq (Room.u64 hr)) (me_var 1) me_int)
 (mss_cons (ms_set 2 (me_lst (ma_cons me_non (ma_cons me_str (ma_cons me_str (ma_cons me_str (ma_cons (me_lst (ma_cons me_int (ma_cons me_int ma_nil))) (ma_cons (me_tup (ma_cons me_int ma_nil)) (ma_cons (me_tup (ma_cons me_int (ma_cons me_int (ma_cons me_int ma_nil)))) (ma_cons (me_tup ma_nil) (ma_cons (me_tup (ma_cons (me_tup (ma_cons me_int (ma_cons me_int ma_nil))) ma_nil)) (ma_cons (me_tup (ma_cons me_int (ma_cons me_non ma_nil))) (ma_cons (me_tup (ma_cons me_str (ma_cons me_int ma_nil))) (ma_cons (me_tup (ma_cons me_int (ma_cons me_str ma_nil))) (ma_cons me_bl (ma_cons me_bl ma_nil))))))))))))))))
 (mss_one (ms_ret (me_ix ixd (me_var 2) (me_fn (ok__law_take Z) (hr.mono (by decide)) (ma_cons (me_var 0) (ma_cons me_int ma_nil)))))))
 mss_nil)
 (mss_cons (ms_if (mt_cmp od_lt (me_var 1) me_int)
 (mss_one (ms_ret (me_bin od_sub (me_fn (ok__law_take Z) (hr.mono (by decide)) (ma_cons (me_var 0) (ma_cons me_int ma_nil))) me_int)))
 mss_nil)
 (mss_cons (ms_if (mt_cmp (od_eq (Room.u64 hr)) (me_var 1) me_int)
 (mss_one (ms_ret (me_fn (ok__law_great Z) (hr.mono (by decide)) (ma_cons (me_var 0) ma_nil))))
 mss_nil)
 (mss_cons (ms_if (mt_cmp (od_eq (Room.u64 hr)) (me_var 1) me_int)
 (mss_one (ms_ret (me_tup (ma_cons me_int (ma_cons me_int ma_nil)))))
 mss_nil)
 (mss_cons (ms_if (mt_cmp (od_eq (Room.u64 hr)) (me_var 1) me_int)
 (mss_one (ms_ret (me_callTy cd_list (ma_cons (me_fn (ok__law_small Z) (hr.mono (by decide)) (ma_cons (me_var 0) ma_nil)) ma_nil) Z.fr_list)))
 mss_nil)
 (mss_cons (ms_set 3 (me_bin od_add me_int (me_fn (ok__law_take Z) (hr.mono (by decide)) (ma_cons (me_var 0) (ma_cons me_int ma_nil)))))
 (mss_cons (ms_set 4 (me_fn (ok__law_small Z) (hr.mono (by decide)) (ma_cons (me_var 0) ma_nil)))
 (mss_one (ms_ret (me_tup (ma_cons (me_bin od_mul (me_ix ixd (me_var 4) me_int) (me_var 3)) (ma_cons (me_bin od_mul (me_ix ixd (me_var 4) me_int) (me_var 3)) ma_nil))))))))))))))))))
theorem sc__law_like : FnScope N__law_like ["_law_told", "_law_due"] (defScope s__law_like) := ⟨rfl, rfl, rfl, by decide +kernel, rfl, by decide +kernel, by decide +kernel⟩
theorem okr__law_like (Z : Ft P w K mg base) : ∀ d : Nat, OkD P w K mg base (2 + d) "_law_like" s__law_like ["_law_told", "_law_due"] (rr__law_like d)
  | 0 => okd_stuck Z.g__law_like Z.f__law_like (fun _ _ _ _ _ _ us hl => match us, hl with | [_, _], _ => rfl)
  | d + 1 => by
    have ih := okr__law_like Z d
    exact okd Z.g__law_like Z.f__law_like sc__law_like (fun _ _ _ _ _ _ us hl => match us, hl with | [_, _], _ => rfl) (fun cdv A outer s H E hr =>
 (mss_cons (ms_if (mt_val (me_isi (T := "tuple") (me_var 1) Z.fr_isinstance Z.fr_tuple))
 (mss_cons (ms_if (mw_pt (mw_or (mt_not (mt_val (me_isi (T := "tuple") (me_var 0) Z.fr_isinstance Z.fr_tuple))) (mw_or1 (mt_cmp (od_ne (Room.u64 hr)) (me_callB cd_len (ma_cons (me_var 0) ma_nil) Z.fr_len) (me_callB cd_len (ma_cons (me_var 1) ma_nil) Z.fr_len)))))
 (mss_one (ms_ret me_bl))
 mss_nil)
 (mss_cons (ms_for (mi_range1 (ma_cons (me_callB cd_len (ma_cons (me_var 1) ma_nil) Z.fr_len) ma_nil) Z.fr_range) (mg_name 2)
 (mss_one (ms_if (mt_not (mt_val (me_fn (ps := ["_law_told", "_law_due"]) (rf := rr__law_like d) (k := 2 + d) (st := s__law_like) (okr__law_like Z d) (hr.mono (Nat.le_refl _)) (ma_cons (me_ix ixd (me_var 0) (me_var 2)) (ma_cons (me_ix ixd (me_var 1) (me_var 2)) ma_nil)))))
 (mss_one (ms_ret me_bl))
 mss_nil)))
 (mss_one (ms_ret me_bl))))
 mss_nil)
 (mss_cons (ms_if (mt_val (me_isi (T := "bool") (me_var 1) Z.fr_isinstance Z.fr_bool))
 (mss_one (ms_ret (me_and (me_isi (T := "bool") (me_var 0) Z.fr_isinstance Z.fr_bool) (me_one (me_cmp (od_eq (Room.u64 hr)) (me_var 0) (me_var 1))))))
 mss_nil)
 (mss_cons (ms_if (mt_val (me_isi (T := "int") (me_var 1) Z.fr_isinstance Z.fr_int))
 (mss_one (ms_ret (me_and (me_fn (ok__law_whole Z) (hr.mono (Nat.le_trans (show 1 ≤ 2 from by decide) (Nat.le_add_right 2 d))) (ma_cons (me_var 0) ma_nil)) (me_one (me_cmp (od_eq (Room.u64 hr)) (me_var 0) (me_var 1))))))
 mss_nil)
 (mss_one (ms_ret (me_and (me_isi (T := "str") (me_var 0) Z.fr_isinstance Z.fr_str) (me_one (me_cmp (od_eq (Room.u64 hr)) (me_var 0) (me_var 1))))))))))
theorem ok__law_like (Z : Ft P w K mg base) : OkD P w K mg base 8 "_law_like" s__law_like ["_law_told", "_law_due"] rf__law_like := okr__law_like Z 6
theorem sc__law_kin : FnScope N__law_kin ["_law_e"] (defScope s__law_kin) := ⟨rfl, rfl, rfl, by decide +kernel, rfl, by decide +kernel, by decide +kernel⟩
theorem ok__law_kin (Z : Ft P w K mg base) : OkD P w K mg base 1 "_law_kin" s__law_kin ["_law_e"] rf__law_kin := okd Z.g__law_kin Z.f__law_kin sc__law_kin (fun _ _ _ _ _ _ us hl => match us, hl with | [_], _ => rfl) (fun cdv A outer s H E hr =>
 (mss_cons (ms_if (mw_pt (mw_or (mt_not (mt_val (me_isV pinned_none (.cons Z.e_InvalidEvent.gm Z.xc_InvalidEvent Z.ki_InvalidEvent_PlanError (.cons Z.e_InvalidPaper.gm Z.xc_InvalidPaper Z.ki_InvalidPaper_PlanError (.cons Z.e_InvalidSketch.gm Z.xc_InvalidSketch Z.ki_InvalidSketch_PlanError (.cons Z.e_InvalidText.gm Z.xc_InvalidText Z.ki_InvalidText_PlanError (.cons Z.e_NotUsable.gm Z.xc_NotUsable Z.ki_NotUsable_PlanError (.cons Z.e_NothingToUndo.gm Z.xc_NothingToUndo Z.ki_NothingToUndo_PlanError (.cons Z.e_Unfit.gm Z.xc_Unfit Z.ki_Unfit_PlanError .nil))))))) Z.fr_isinstance (pe_glob (v := V.ref (He.ga K "PlanError")) rfl Z.gc_PlanError rfl) (fun _ h => h) (me_var 0)))) (mw_or (mt_not (mt_val (me_isV pinned_none (.cons Z.e_InvalidEvent.gm Z.xc_InvalidEvent Z.ki_InvalidEvent_HangError (.cons Z.e_InvalidPaper.gm Z.xc_InvalidPaper Z.ki_InvalidPaper_HangError (.cons Z.e_InvalidSketch.gm Z.xc_InvalidSketch Z.ki_InvalidSketch_HangError (.cons Z.e_InvalidText.gm Z.xc_InvalidText Z.ki_InvalidText_HangError (.cons Z.e_NotUsable.gm Z.xc_NotUsable Z.ki_NotUsable_HangError (.cons Z.e_NothingToUndo.gm Z.xc_NothingToUndo Z.ki_NothingToUndo_HangError (.cons Z.e_Unfit.gm Z.xc_Unfit Z.ki_Unfit_HangError .nil))))))) Z.fr_isinstance (pe_glob (v := V.ref (He.ga K "HangError")) rfl Z.gc_HangError rfl) (fun _ h => h) (me_var 0)))) (mw_or1 (mt_not (mt_val (me_isV pinned_none (.cons Z.e_InvalidEvent.gm Z.xc_InvalidEvent Z.ki_InvalidEvent_ValueError (.cons Z.e_InvalidPaper.gm Z.xc_InvalidPaper Z.ki_InvalidPaper_ValueError (.cons Z.e_InvalidSketch.gm Z.xc_InvalidSketch Z.ki_InvalidSketch_ValueError (.cons Z.e_InvalidText.gm Z.xc_InvalidText Z.ki_InvalidText_ValueError (.cons Z.e_NotUsable.gm Z.xc_NotUsable Z.ki_NotUsable_ValueError (.cons Z.e_NothingToUndo.gm Z.xc_NothingToUndo Z.ki_NothingToUndo_ValueError (.cons Z.e_Unfit.gm Z.xc_Unfit Z.ki_Unfit_ValueError .nil))))))) Z.fr_isinstance (pe_bltn (v := V.ty "ValueError") rfl Z.fr_ValueError (by decide +kernel) rfl (by decide) (by decide)) (fun _ h => h) (me_var 0))))))))
 (mss_one (ms_ret me_bl))
 mss_nil)
 (mss_cons (ms_if (mw_pt (mw_or (mt_val (me_isV pinned_none (.cons Z.e_InvalidEvent.gm Z.xc_InvalidEvent Z.ki_InvalidEvent_PaperError (.cons Z.e_InvalidPaper.gm Z.xc_InvalidPaper Z.ki_InvalidPaper_PaperError (.cons Z.e_InvalidSketch.gm Z.xc_InvalidSketch Z.ki_InvalidSketch_PaperError (.cons Z.e_InvalidText.gm Z.xc_InvalidText Z.ki_InvalidText_PaperError (.cons Z.e_NotUsable.gm Z.xc_NotUsable Z.ki_NotUsable_PaperError (.cons Z.e_NothingToUndo.gm Z.xc_NothingToUndo Z.ki_NothingToUndo_PaperError (.cons Z.e_Unfit.gm Z.xc_Unfit Z.ki_Unfit_PaperError .nil))))))) Z.fr_isinstance (pe_glob (v := V.ref (He.ga K "PaperError")) rfl Z.gc_PaperError rfl) (fun _ h => h) (me_var 0))) (mw_or (mt_val (me_isV pinned_none (.cons Z.e_InvalidEvent.gm Z.xc_InvalidEvent Z.ki_InvalidEvent_LiveError (.cons Z.e_InvalidPaper.gm Z.xc_InvalidPaper Z.ki_InvalidPaper_LiveError (.cons Z.e_InvalidSketch.gm Z.xc_InvalidSketch Z.ki_InvalidSketch_LiveError (.cons Z.e_InvalidText.gm Z.xc_InvalidText Z.ki_InvalidText_LiveError (.cons Z.e_NotUsable.gm Z.xc_NotUsable Z.ki_NotUsable_LiveError (.cons Z.e_NothingToUndo.gm Z.xc_NothingToUndo Z.ki_NothingToUndo_LiveError (.cons Z.e_Unfit.gm Z.xc_Unfit Z.ki_Unfit_LiveError .nil))))))) Z.fr_isinstance (pe_glob (v := V.ref (He.ga K "LiveError")) rfl Z.gc_LiveError rfl) (fun _ h => h) (me_var 0))) (mw_or1 (mt_val (me_isV pinned_none (.cons Z.e_InvalidEvent.gm Z.xc_InvalidEvent Z.ki_InvalidEvent_TextError (.cons Z.e_InvalidPaper.gm Z.xc_InvalidPaper Z.ki_InvalidPaper_TextError (.cons Z.e_InvalidSketch.gm Z.xc_InvalidSketch Z.ki_InvalidSketch_TextError (.cons Z.e_InvalidText.gm Z.xc_InvalidText Z.ki_InvalidText_TextError (.cons Z.e_NotUsable.gm Z.xc_NotUsable Z.ki_NotUsable_TextError (.cons Z.e_NothingToUndo.gm Z.xc_NothingToUndo Z.ki_NothingToUndo_TextError (.cons Z.e_Unfit.gm Z.xc_Unfit Z.ki_Unfit_TextError .nil))))))) Z.fr_isinstance (pe_glob (v := V.ref (He.ga K "TextError")) rfl Z.gc_TextError rfl) (fun _ h => h) (me_var 0)))))))
 (mss_one (ms_ret me_bl))
 mss_nil)
 (mss_one (ms_ret (me_not (me_isV pinned_none (.cons Z.e_InvalidEvent.gm Z.xc_InvalidEvent Z.ki_InvalidEvent_Unfit (.cons Z.e_InvalidPaper.gm Z.xc_InvalidPaper Z.ki_InvalidPaper_Unfit (.cons Z.e_InvalidSketch.gm Z.xc_InvalidSketch Z.ki_InvalidSketch_Unfit (.cons Z.e_InvalidText.gm Z.xc_InvalidText Z.ki_InvalidText_Unfit (.cons Z.e_NotUsable.gm Z.xc_NotUsable Z.ki_NotUsable_Unfit (.cons Z.e_NothingToUndo.gm Z.xc_NothingToUndo Z.ki_NothingToUndo_Unfit (.cons Z.e_Unfit.gm Z.xc_Unfit Z.ki_Unfit_Unfit .nil))))))) Z.fr_isinstance (pe_glob (v := V.ref (He.ga K "Unfit")) rfl Z.gc_Unfit rfl) (fun _ h => h) (me_var 0))))))))
theorem okp__law_kin (Z : Ft P w K mg base) : OkP P w K mg base 1 "_law_kin" s__law_kin ["_law_e"] rf__law_kin := okp Z.g__law_kin Z.f__law_kin sc__law_kin (fun _ _ _ _ _ _ us hl => match us, hl with | [_], _ => rfl) (fun cdv A outer s H p cls d hz hf hr =>
 (mss_cons (ms_if (mw_pt (mw_or (mt_not (mt_val (me_isV (pinned_P hz hf) (.cons Z.e_InvalidEvent.gm Z.xc_InvalidEvent Z.ki_InvalidEvent_PlanError (.cons Z.e_InvalidPaper.gm Z.xc_InvalidPaper Z.ki_InvalidPaper_PlanError (.cons Z.e_InvalidSketch.gm Z.xc_InvalidSketch Z.ki_InvalidSketch_PlanError (.cons Z.e_InvalidText.gm Z.xc_InvalidText Z.ki_InvalidText_PlanError (.cons Z.e_NotUsable.gm Z.xc_NotUsable Z.ki_NotUsable_PlanError (.cons Z.e_NothingToUndo.gm Z.xc_NothingToUndo Z.ki_NothingToUndo_PlanError (.cons Z.e_Unfit.gm Z.xc_Unfit Z.ki_Unfit_PlanError .nil))))))) Z.fr_isinstance (pe_glob (v := V.ref (He.ga K "PlanError")) rfl Z.gc_PlanError rfl) (fun _ h => h) (me_var 0)))) (mw_or (mt_not (mt_val (me_isV (pinned_P hz hf) (.cons Z.e_InvalidEvent.gm Z.xc_InvalidEvent Z.ki_InvalidEvent_HangError (.cons Z.e_InvalidPaper.gm Z.xc_InvalidPaper Z.ki_InvalidPaper_HangError (.cons Z.e_InvalidSketch.gm Z.xc_InvalidSketch Z.ki_InvalidSketch_HangError (.cons Z.e_InvalidText.gm Z.xc_InvalidText Z.ki_InvalidText_HangError (.cons Z.e_NotUsable.gm Z.xc_NotUsable Z.ki_NotUsable_HangError (.cons Z.e_NothingToUndo.gm Z.xc_NothingToUndo Z.ki_NothingToUndo_HangError (.cons Z.e_Unfit.gm Z.xc_Unfit Z.ki_Unfit_HangError .nil))))))) Z.fr_isinstance (pe_glob (v := V.ref (He.ga K "HangError")) rfl Z.gc_HangError rfl) (fun _ h => h) (me_var 0)))) (mw_or1 (mt_not (mt_val (me_isV (pinned_P hz hf) (.cons Z.e_InvalidEvent.gm Z.xc_InvalidEvent Z.ki_InvalidEvent_ValueError (.cons Z.e_InvalidPaper.gm Z.xc_InvalidPaper Z.ki_InvalidPaper_ValueError (.cons Z.e_InvalidSketch.gm Z.xc_InvalidSketch Z.ki_InvalidSketch_ValueError (.cons Z.e_InvalidText.gm Z.xc_InvalidText Z.ki_InvalidText_ValueError (.cons Z.e_NotUsable.gm Z.xc_NotUsable Z.ki_NotUsable_ValueError (.cons Z.e_NothingToUndo.gm Z.xc_NothingToUndo Z.ki_NothingToUndo_ValueError (.cons Z.e_Unfit.gm Z.xc_Unfit Z.ki_Unfit_ValueError .nil))))))) Z.fr_isinstance (pe_bltn (v := V.ty "ValueError") rfl Z.fr_ValueError (by decide +kernel) rfl (by decide) (by decide)) (fun _ h => h) (me_var 0))))))))
 (mss_one (ms_ret me_bl))
 mss_nil)
 (mss_cons (ms_if (mw_pt (mw_or (mt_val (me_isV (pinned_P hz hf) (.cons Z.e_InvalidEvent.gm Z.xc_InvalidEvent Z.ki_InvalidEvent_PaperError (.cons Z.e_InvalidPaper.gm Z.xc_InvalidPaper Z.ki_InvalidPaper_PaperError (.cons Z.e_InvalidSketch.gm Z.xc_InvalidSketch Z.ki_InvalidSketch_PaperError (.cons Z.e_InvalidText.gm Z.xc_InvalidText Z.ki_InvalidText_PaperError (.cons Z.e_NotUsable.gm Z.xc_NotUsable Z.ki_NotUsable_PaperError (.cons Z.e_NothingToUndo.gm Z.xc_NothingToUndo Z.ki_NothingToUndo_PaperError (.cons Z.e_Unfit.gm Z.xc_Unfit Z.ki_Unfit_PaperError .nil))))))) Z.fr_isinstance (pe_glob (v := V.ref (He.ga K "PaperError")) rfl Z.gc_PaperError rfl) (fun _ h => h) (me_var 0))) (mw_or (mt_val (me_isV (pinned_P hz hf) (.cons Z.e_InvalidEvent.gm Z.xc_InvalidEvent Z.ki_InvalidEvent_LiveError (.cons Z.e_InvalidPaper.gm Z.xc_InvalidPaper Z.ki_InvalidPaper_LiveError (.cons Z.e_InvalidSketch.gm Z.xc_InvalidSketch Z.ki_InvalidSketch_LiveError (.cons Z.e_InvalidText.gm Z.xc_InvalidText Z.ki_InvalidText_LiveError (.cons Z.e_NotUsable.gm Z.xc_NotUsable Z.ki_NotUsable_LiveError (.cons Z.e_NothingToUndo.gm Z.xc_NothingToUndo Z.ki_NothingToUndo_LiveError (.cons Z.e_Unfit.gm Z.xc_Unfit Z.ki_Unfit_LiveError .nil))))))) Z.fr_isinstance (pe_glob (v := V.ref (He.ga K "LiveError")) rfl Z.gc_LiveError rfl) (fun _ h => h) (me_var 0))) (mw_or1 (mt_val (me_isV (pinned_P hz hf) (.cons Z.e_InvalidEvent.gm Z.xc_InvalidEvent Z.ki_InvalidEvent_TextError (.cons Z.e_InvalidPaper.gm Z.xc_InvalidPaper Z.ki_InvalidPaper_TextError (.cons Z.e_InvalidSketch.gm Z.xc_InvalidSketch Z.ki_InvalidSketch_TextError (.cons Z.e_InvalidText.gm Z.xc_InvalidText Z.ki_InvalidText_TextError (.cons Z.e_NotUsable.gm Z.xc_NotUsable Z.ki_NotUsable_TextError (.cons Z.e_NothingToUndo.gm Z.xc_NothingToUndo Z.ki_NothingToUndo_TextError (.cons Z.e_Unfit.gm Z.xc_Unfit Z.ki_Unfit_TextError .nil))))))) Z.fr_isinstance (pe_glob (v := V.ref (He.ga K "TextError")) rfl Z.gc_TextError rfl) (fun _ h => h) (me_var 0)))))))
 (mss_one (ms_ret me_bl))
 mss_nil)
 (mss_one (ms_ret (me_not (me_isV (pinned_P hz hf) (.cons Z.e_InvalidEvent.gm Z.xc_InvalidEvent Z.ki_InvalidEvent_Unfit (.cons Z.e_InvalidPaper.gm Z.xc_InvalidPaper Z.ki_InvalidPaper_Unfit (.cons Z.e_InvalidSketch.gm Z.xc_InvalidSketch Z.ki_InvalidSketch_Unfit (.cons Z.e_InvalidText.gm Z.xc_InvalidText Z.ki_InvalidText_Unfit (.cons Z.e_NotUsable.gm Z.xc_NotUsable Z.ki_NotUsable_Unfit (.cons Z.e_NothingToUndo.gm Z.xc_NothingToUndo Z.ki_NothingToUndo_Unfit (.cons Z.e_Unfit.gm Z.xc_Unfit Z.ki_Unfit_Unfit .nil))))))) Z.fr_isinstance (pe_glob (v := V.ref (He.ga K "Unfit")) rfl Z.gc_Unfit rfl) (fun _ h => h) (me_var 0))))))))
theorem sc__law_two : FnScope N__law_two ["_law_deed", "_law_left", "_law_right", "_law_named"] (defScope s__law_two) := ⟨rfl, rfl, rfl, by decide +kernel, rfl, by decide +kernel, by decide +kernel⟩
theorem ok__law_two (Z : Ft P w K mg base) : OkD P w K mg base 5 "_law_two" s__law_two ["_law_deed", "_law_left", "_law_right", "_law_named"] rf__law_two := okd Z.g__law_two Z.f__law_two sc__law_two (fun _ _ _ _ _ _ us hl => match us, hl with | [_, _, _, _], _ => rfl) (fun cdv A outer s H E hr =>
 (mss_one (ms_tryAs 4 rfl (dec1_ok Z.x_NotUsable Z.e_NotUsable.gm) ⟨by rfl, by decide, .inl Z.e_NotUsable.gm⟩ (fun W pn xe tk ow => (mss_cons (ms_if (mt_cmp (od_eq (Room.u64 hr)) (me_var 0) me_int)
 (mss_one (ms_ret (me_tup (ma_cons me_str (ma_cons (me_if (mt_val (me_var 3)) (me_fnK0 (ks := ["other", "one"]) (pm := @pm10) (ok_plus Z) (hr.mono (by decide)) perm_10 (fun _ _ _ _ _ _ us ws h1 h2 => match us, ws, h1, h2 with | [], [_, _], _, _ => rfl) (mk_cons (me_var 2) (mk_cons (me_var 1) mk_nil))) (me_fn (ok_plus Z) (hr.mono (by decide)) (ma_cons (me_var 1) (ma_cons (me_var 2) ma_nil)))) ma_nil)))))
 mss_nil)
 (mss_cons (ms_if (mt_cmp (od_eq (Room.u64 hr)) (me_var 0) me_int)
 (mss_one (ms_ret (me_tup (ma_cons me_str (ma_cons (me_if (mt_val (me_var 3)) (me_fnK0 (ks := ["other", "one"]) (pm := @pm10) (ok_minus Z) (hr.mono (by decide)) perm_10 (fun _ _ _ _ _ _ us ws h1 h2 => match us, ws, h1, h2 with | [], [_, _], _, _ => rfl) (mk_cons (me_var 2) (mk_cons (me_var 1) mk_nil))) (me_fn (ok_minus Z) (hr.mono (by decide)) (ma_cons (me_var 1) (ma_cons (me_var 2) ma_nil)))) ma_nil)))))
 mss_nil)
 (mss_cons (ms_if (mt_cmp (od_eq (Room.u64 hr)) (me_var 0) me_int)
 (mss_one (ms_ret (me_tup (ma_cons me_str (ma_cons (me_if (mt_val (me_var 3)) (me_fnK0 (ks := ["other", "one"]) (pm := @pm10) (ok_times Z) (hr.mono (by decide)) perm_10 (fun _ _ _ _ _ _ us ws h1 h2 => match us, ws, h1, h2 with | [], [_, _], _, _ => rfl) (mk_cons (me_var 2) (mk_cons (me_var 1) mk_nil))) (me_fn (ok_times Z) (hr.mono (by decide)) (ma_cons (me_var 1) (ma_cons (me_var 2) ma_nil)))) ma_nil)))))
 mss_nil)
 (mss_cons (ms_if (mt_cmp (od_eq (Room.u64 hr)) (me_var 0) me_int)
 (mss_one (ms_ret (me_tup (ma_cons me_str (ma_cons (me_if (mt_val (me_var 3)) (me_fnK0 (ks := ["other", "one"]) (pm := @pm10) (ok_over Z) (hr.mono (by decide)) perm_10 (fun _ _ _ _ _ _ us ws h1 h2 => match us, ws, h1, h2 with | [], [_, _], _, _ => rfl) (mk_cons (me_var 2) (mk_cons (me_var 1) mk_nil))) (me_fn (ok_over Z) (hr.mono (by decide)) (ma_cons (me_var 1) (ma_cons (me_var 2) ma_nil)))) ma_nil)))))
 mss_nil)
 (mss_cons (ms_if (mt_cmp (od_eq (Room.u64 hr)) (me_var 0) me_int)
 (mss_one (ms_ret (me_tup (ma_cons me_str (ma_cons (me_if (mt_val (me_var 3)) (me_fnK0 (ks := ["other", "one"]) (pm := @pm10) (ok_is_less Z) (hr.mono (by decide)) perm_10 (fun _ _ _ _ _ _ us ws h1 h2 => match us, ws, h1, h2 with | [], [_, _], _, _ => rfl) (mk_cons (me_var 2) (mk_cons (me_var 1) mk_nil))) (me_fn (ok_is_less Z) (hr.mono (by decide)) (ma_cons (me_var 1) (ma_cons (me_var 2) ma_nil)))) ma_nil)))))
 mss_nil)
 (mss_cons (ms_if (mt_cmp (od_eq (Room.u64 hr)) (me_var 0) me_int)
 (mss_one (ms_ret (me_tup (ma_cons me_str (ma_cons (me_if (mt_val (me_var 3)) (me_fnK0 (ks := ["thing", "many"]) (pm := @pm10) (ok_is_shapes Z) (hr.mono (by decide)) perm_10 (fun _ _ _ _ _ _ us ws h1 h2 => match us, ws, h1, h2 with | [], [_, _], _, _ => rfl) (mk_cons (me_var 2) (mk_cons (me_var 1) mk_nil))) (me_fn (ok_is_shapes Z) (hr.mono (by decide)) (ma_cons (me_var 1) (ma_cons (me_var 2) ma_nil)))) ma_nil)))))
 mss_nil)
 (mss_cons (ms_if (mt_cmp (od_eq (Room.u64 hr)) (me_var 0) me_int)
 (mss_one (ms_ret (me_tup (ma_cons me_str (ma_cons (me_if (mt_val (me_var 3)) (me_fnK0 (ks := ["thing", "many"]) (pm := @pm10) (ok_is_table Z) (hr.mono (by decide)) perm_10 (fun _ _ _ _ _ _ us ws h1 h2 => match us, ws, h1, h2 with | [], [_, _], _, _ => rfl) (mk_cons (me_var 2) (mk_cons (me_var 1) mk_nil))) (me_fn (ok_is_table Z) (hr.mono (by decide)) (ma_cons (me_var 1) (ma_cons (me_var 2) ma_nil)))) ma_nil)))))
 mss_nil)
 (mss_one (ms_ret (me_tup (ma_cons me_str (ma_cons (me_if (mt_val (me_var 3)) (me_fnK0 (ks := ["thing", "many"]) (pm := @pm10) (ok_is_place Z) (hr.mono (by decide)) perm_10 (fun _ _ _ _ _ _ us ws h1 h2 => match us, ws, h1, h2 with | [], [_, _], _, _ => rfl) (mk_cons (me_var 2) (mk_cons (me_var 1) mk_nil))) (me_fn (ok_is_place Z) (hr.mono (by decide)) (ma_cons (me_var 1) (ma_cons (me_var 2) ma_nil)))) ma_nil))))))))))))) (fun ad oe cls dx pn hz hf => (mss_cons (ms_if (mt_not (mt_val (me_fnP (okp__law_kin Z) List.mem_cons_self hz hf ((Room.hot hr _).mono (by decide)) (ma_cons (me_var 4) ma_nil))))
 (mss_one (ms_ret (me_tup (ma_cons me_str ma_nil))))
 mss_nil)
 (mss_one (ms_ret (me_tup (ma_cons me_str (ma_cons (me_xf (n := "NotUsable") (f := "word") (ad := ad) (oe := oe) (cls := cls) (dx := dx) (pn := pn) (c := ⟨K, mg, none⟩) (Y := cxOf (L2.CX P w) P w K mg base N__law_two "_law_two" (defScope s__law_two) (He.ga K "_law_two") cdv A outer s H E) Z.e_NotUsable.er.xf Z.e_NotUsable.gm (Z.e_NotUsable.er.no _ (by simp)) hz hf (me_var 4)) (ma_cons (me_xf (n := "NotUsable") (f := "at") (ad := ad) (oe := oe) (cls := cls) (dx := dx) (pn := pn) (c := ⟨K, mg, none⟩) (Y := cxOf (L2.CX P w) P w K mg base N__law_two "_law_two" (defScope s__law_two) (He.ga K "_law_two") cdv A outer s H E) Z.e_NotUsable.er.xf Z.e_NotUsable.gm (Z.e_NotUsable.er.no _ (by simp)) hz hf (me_var 4)) ma_nil)))))))))))
theorem sc__law_single : FnScope N__law_single ["_law_deed", "_law_value_here", "_law_named"] (defScope s__law_single) := ⟨rfl, rfl, rfl, by decide +kernel, rfl, by decide +kernel, by decide +kernel⟩
theorem ok__law_single (Z : Ft P w K mg base) : OkD P w K mg base 5 "_law_single" s__law_single ["_law_deed", "_law_value_here", "_law_named"] rf__law_single := okd Z.g__law_single Z.f__law_single sc__law_single (fun _ _ _ _ _ _ us hl => match us, hl with | [_, _, _], _ => rfl) (fun cdv A outer s H E hr =>
 (mss_one (ms_tryAs 3 rfl (dec1_ok Z.x_NotUsable Z.e_NotUsable.gm) ⟨by rfl, by decide, .inl Z.e_NotUsable.gm⟩ (fun W pn xe tk ow => (mss_cons (ms_if (mt_cmp (od_eq (Room.u64 hr)) (me_var 0) me_int)
 (mss_one (ms_ret (me_tup (ma_cons me_str (ma_cons (me_if (mt_val (me_var 2)) (me_fnK0 (ks := ["thing"]) (pm := @pm01) (ok_is_integer Z) (hr.mono (by decide)) perm_01 (fun _ _ _ _ _ _ us ws h1 h2 => match us, ws, h1, h2 with | [], [_], _, _ => rfl) (mk_cons (me_var 1) mk_nil)) (me_fn (ok_is_integer Z) (hr.mono (by decide)) (ma_cons (me_var 1) ma_nil))) ma_nil)))))
 mss_nil)
 (mss_cons (ms_if (mt_cmp (od_eq (Room.u64 hr)) (me_var 0) me_int)
 (mss_one (ms_ret (me_tup (ma_cons me_str (ma_cons (me_if (mt_val (me_var 2)) (me_fnK0 (ks := ["thing"]) (pm := @pm01) (ok_is_quotient Z) (hr.mono (by decide)) perm_01 (fun _ _ _ _ _ _ us ws h1 h2 => match us, ws, h1, h2 with | [], [_], _, _ => rfl) (mk_cons (me_var 1) mk_nil)) (me_fn (ok_is_quotient Z) (hr.mono (by decide)) (ma_cons (me_var 1) ma_nil))) ma_nil)))))
 mss_nil)
 (mss_cons (ms_if (mt_cmp (od_eq (Room.u64 hr)) (me_var 0) me_int)
 (mss_one (ms_ret (me_tup (ma_cons me_str (ma_cons (me_if (mt_val (me_var 2)) (me_fnK0 (ks := ["thing"]) (pm := @pm01) (ok_is_positive Z) (hr.mono (by decide)) perm_01 (fun _ _ _ _ _ _ us ws h1 h2 => match us, ws, h1, h2 with | [], [_], _, _ => rfl) (mk_cons (me_var 1) mk_nil)) (me_fn (ok_is_positive Z) (hr.mono (by decide)) (ma_cons (me_var 1) ma_nil))) ma_nil)))))
 mss_nil)
 (mss_cons (ms_if (mt_cmp (od_eq (Room.u64 hr)) (me_var 0) me_int)
 (mss_one (ms_ret (me_tup (ma_cons me_str (ma_cons (me_if (mt_val (me_var 2)) (me_fnK0 (ks := ["side"]) (pm := @pm01) (ok_side_after Z) (hr.mono (by decide)) perm_01 (fun _ _ _ _ _ _ us ws h1 h2 => match us, ws, h1, h2 with | [], [_], _, _ => rfl) (mk_cons (me_var 1) mk_nil)) (me_fn (ok_side_after Z) (hr.mono (by decide)) (ma_cons (me_var 1) ma_nil))) ma_nil)))))
 mss_nil)
 (mss_cons (ms_if (mt_cmp (od_eq (Room.u64 hr)) (me_var 0) me_int)
 (mss_one (ms_ret (me_tup (ma_cons me_str (ma_cons (me_if (mt_val (me_var 2)) (me_fnK0 (ks := ["side"]) (pm := @pm01) (ok_side_opposite Z) (hr.mono (by decide)) perm_01 (fun _ _ _ _ _ _ us ws h1 h2 => match us, ws, h1, h2 with | [], [_], _, _ => rfl) (mk_cons (me_var 1) mk_nil)) (me_fn (ok_side_opposite Z) (hr.mono (by decide)) (ma_cons (me_var 1) ma_nil))) ma_nil)))))
 mss_nil)
 (mss_one (ms_ret (me_tup (ma_cons me_str (ma_cons (me_if (mt_val (me_var 2)) (me_fnK0 (ks := ["place"]) (pm := @pm01) (ok_place_letter Z) (hr.mono (by decide)) perm_01 (fun _ _ _ _ _ _ us ws h1 h2 => match us, ws, h1, h2 with | [], [_], _, _ => rfl) (mk_cons (me_var 1) mk_nil)) (me_fn (ok_place_letter Z) (hr.mono (by decide)) (ma_cons (me_var 1) ma_nil))) ma_nil))))))))))) (fun ad oe cls dx pn hz hf => (mss_cons (ms_if (mt_not (mt_val (me_fnP (okp__law_kin Z) List.mem_cons_self hz hf ((Room.hot hr _).mono (by decide)) (ma_cons (me_var 3) ma_nil))))
 (mss_one (ms_ret (me_tup (ma_cons me_str ma_nil))))
 mss_nil)
 (mss_one (ms_ret (me_tup (ma_cons me_str (ma_cons (me_xf (n := "NotUsable") (f := "word") (ad := ad) (oe := oe) (cls := cls) (dx := dx) (pn := pn) (c := ⟨K, mg, none⟩) (Y := cxOf (L2.CX P w) P w K mg base N__law_single "_law_single" (defScope s__law_single) (He.ga K "_law_single") cdv A outer s H E) Z.e_NotUsable.er.xf Z.e_NotUsable.gm (Z.e_NotUsable.er.no _ (by simp)) hz hf (me_var 3)) (ma_cons (me_xf (n := "NotUsable") (f := "at") (ad := ad) (oe := oe) (cls := cls) (dx := dx) (pn := pn) (c := ⟨K, mg, none⟩) (Y := cxOf (L2.CX P w) P w K mg base N__law_single "_law_single" (defScope s__law_single) (He.ga K "_law_single") cdv A outer s H E) Z.e_NotUsable.er.xf Z.e_NotUsable.gm (Z.e_NotUsable.er.no _ (by simp)) hz hf (me_var 3)) ma_nil)))))))))))
theorem sc__law_all_of : FnScope N__law_all_of ["_law_count", "_law_value_here", "_law_least"] (defScope s__law_all_of) := ⟨rfl, rfl, rfl, by decide +kernel, rfl, by decide +kernel, by decide +kernel⟩
theorem ok__law_all_of (Z : Ft P w K mg base) : OkD P w K mg base 3 "_law_all_of" s__law_all_of ["_law_count", "_law_value_here", "_law_least"] rf__law_all_of := okd Z.g__law_all_of Z.f__law_all_of sc__law_all_of (fun _ _ _ _ _ _ us hl => match us, hl with | [_, _, _], _ => rfl) (fun cdv A outer s H E hr =>
 (mss_cons (ms_if (mw_pt (mw_or (mt_not (mt_val (me_isi (T := "tuple") (me_var 1) Z.fr_isinstance Z.fr_tuple))) (mw_or1 (mt_cmp (od_ne (Room.u64 hr)) (me_callB cd_len (ma_cons (me_var 1) ma_nil) Z.fr_len) (me_var 0)))))
 (mss_one (ms_ret me_bl))
 mss_nil)
 (mss_cons (ms_for (mi_seq (me_var 1)) (mg_name 3)
 (mss_one (ms_if (mw_pt (mw_or (mt_not (mt_val (me_fn (ok__law_quotient Z) (hr.mono (by decide)) (ma_cons (me_var 3) ma_nil)))) (mw_or1 (mt_cmp od_lt (me_ix ixd (me_var 3) me_int) (me_var 2)))))
 (mss_one (ms_ret me_bl))
 mss_nil)))
 (mss_one (ms_ret me_bl)))))
theorem sc__law_reckoned : FnScope N__law_reckoned ["_law_deed", "_law_left", "_law_right", "_law_told"] (defScope s__law_reckoned) := ⟨rfl, rfl, rfl, by decide +kernel, rfl, by decide +kernel, by decide +kernel⟩
theorem ok__law_reckoned (Z : Ft P w K mg base) : OkD P w K mg base 9 "_law_reckoned" s__law_reckoned ["_law_deed", "_law_left", "_law_right", "_law_told"] rf__law_reckoned := okd Z.g__law_reckoned Z.f__law_reckoned sc__law_reckoned (fun _ _ _ _ _ _ us hl => match us, hl with | [_, _, _, _], _ => rfl) (fun cdv A outer s H E hr =>
 (mss_cons (ms_if (mt_cmp (od_eq (Room.u64 hr)) (me_var 0) me_int)
 (mss_one (ms_ret (me_fn (ok__law_like Z) (hr.mono (by decide)) (ma_cons (me_var 3) (ma_cons (me_tup (ma_cons me_str (ma_cons (me_cmp od_lt (me_bin od_mul (me_ix ixd (me_var 1) me_int) (me_ix ixd (me_var 2) me_int)) (me_bin od_mul (me_ix ixd (me_var 2) me_int) (me_ix ixd (me_var 1) me_int))) ma_nil))) ma_nil)))))
 mss_nil)
 (mss_cons (ms_if (mw_pt (mw_or (mt_not (mt_val (me_isi (T := "tuple") (me_var 3) Z.fr_isinstance Z.fr_tuple))) (mw_or (mt_cmp (od_ne (Room.u64 hr)) (me_callB cd_len (ma_cons (me_var 3) ma_nil) Z.fr_len) me_int) (mw_or (mt_cmp (od_ne (Room.u64 hr)) (me_ix ixd (me_var 3) me_int) me_str) (mw_or1 (mt_not (mt_val (me_fn (ok__law_quotient Z) (hr.mono (by decide)) (ma_cons (me_ix ixd (me_var 3) me_int) ma_nil)))))))))
 (mss_one (ms_ret me_bl))
 mss_nil)
 (mss_cons (ms_set 4 (me_bin od_add (me_bin od_mul (me_ix ixd (me_var 1) me_int) (me_ix ixd (me_var 2) me_int)) (me_bin od_mul (me_ix ixd (me_var 2) me_int) (me_ix ixd (me_var 1) me_int))))
 (mss_cons (ms_set 5 (me_bin od_mul (me_ix ixd (me_var 1) me_int) (me_ix ixd (me_var 2) me_int)))
 (mss_cons (ms_if (mt_cmp (od_eq (Room.u64 hr)) (me_var 0) me_int)
 (mss_one (ms_set 4 (me_bin od_sub (me_bin od_mul (me_ix ixd (me_var 1) me_int) (me_ix ixd (me_var 2) me_int)) (me_bin od_mul (me_ix ixd (me_var 2) me_int) (me_ix ixd (me_var 1) me_int)))))
 mss_nil)
 (mss_cons (ms_if (mt_cmp (od_eq (Room.u64 hr)) (me_var 0) me_int)
 (mss_one (ms_set 4 (me_bin od_mul (me_ix ixd (me_var 1) me_int) (me_ix ixd (me_var 2) me_int))))
 mss_nil)
 (mss_cons (ms_if (mt_cmp (od_eq (Room.u64 hr)) (me_var 0) me_int)
 (mss_cons (ms_set 4 (me_bin od_mul (me_ix ixd (me_var 1) me_int) (me_ix ixd (me_var 2) me_int)))
 (mss_one (ms_set 5 (me_bin od_mul (me_ix ixd (me_var 1) me_int) (me_ix ixd (me_var 2) me_int)))))
 mss_nil)
 (mss_one (ms_ret (me_cmp (od_eq (Room.u64 hr)) (me_bin od_mul (me_ix ixd (me_ix ixd (me_var 3) me_int) me_int) (me_var 5)) (me_bin od_mul (me_ix ixd (me_ix ixd (me_var 3) me_int) me_int) (me_var 4)))))))))))))
theorem sc__law_pair : FnScope N__law_pair ["_law_deed", "_law_left", "_law_right", "_law_named"] (defScope s__law_pair) := ⟨rfl, rfl, rfl, by decide +kernel, rfl, by decide +kernel, by decide +kernel⟩
theorem ok__law_pair (Z : Ft P w K mg base) : OkD P w K mg base 10 "_law_pair" s__law_pair ["_law_deed", "_law_left", "_law_right", "_law_named"] rf__law_pair := okd Z.g__law_pair Z.f__law_pair sc__law_pair (fun _ _ _ _ _ _ us hl => match us, hl with | [_, _, _, _], _ => rfl) (fun cdv A outer s H E hr =>
 (mss_cons (ms_set 4 (me_fn (ok__law_two Z) (hr.mono (by decide)) (ma_cons (me_var 0) (ma_cons (me_var 1) (ma_cons (me_var 2) (ma_cons (me_var 3) ma_nil))))))
 (mss_cons (ms_if (mt_cmp od_gt (me_var 0) me_int)
 (mss_cons (ms_if (mw_pt (mw_or (mt_not (mt_val (me_fn (ok__law_whole Z) (hr.mono (by decide)) (ma_cons (me_var 1) ma_nil)))) (mw_or1 (mt_cmp od_lt (me_var 1) me_int))))
 (mss_one (ms_ret (me_fn (ok__law_like Z) (hr.mono (by decide)) (ma_cons (me_var 4) (ma_cons (me_tup (ma_cons me_str (ma_cons me_str (ma_cons (me_un ud_neg me_int) ma_nil)))) ma_nil)))))
 mss_nil)
 (mss_cons (ms_if (mt_cmp (od_eq (Room.u64 hr)) (me_var 0) me_int)
 (mss_one (ms_ret (me_fn (ok__law_like Z) (hr.mono (by decide)) (ma_cons (me_var 4) (ma_cons (me_tup (ma_cons me_str (ma_cons (me_and (me_fn (ok__law_whole Z) (hr.mono (by decide)) (ma_cons (me_var 2) ma_nil)) (me_and (me_cmp od_le (me_un ud_neg me_int) (me_var 2)) (me_one (me_cmp od_lt (me_var 2) (me_var 1))))) ma_nil))) ma_nil)))))
 mss_nil)
 (mss_one (ms_ret (me_fn (ok__law_like Z) (hr.mono (by decide)) (ma_cons (me_var 4) (ma_cons (me_tup (ma_cons me_str (ma_cons (me_fn (ok__law_all_of Z) (hr.mono (by decide)) (ma_cons (me_var 1) (ma_cons (me_var 2) (ma_cons (me_bin od_sub me_int (me_var 0)) ma_nil)))) ma_nil))) ma_nil)))))))
 mss_nil)
 (mss_cons (ms_if (mt_not (mt_val (me_fn (ok__law_quotient Z) (hr.mono (by decide)) (ma_cons (me_var 1) ma_nil))))
 (mss_one (ms_ret (me_fn (ok__law_like Z) (hr.mono (by decide)) (ma_cons (me_var 4) (ma_cons (me_tup (ma_cons me_str (ma_cons me_str (ma_cons (me_un ud_neg me_int) ma_nil)))) ma_nil)))))
 mss_nil)
 (mss_cons (ms_if (mw_pt (mw_or (mt_not (mt_val (me_fn (ok__law_quotient Z) (hr.mono (by decide)) (ma_cons (me_var 2) ma_nil)))) (mw_or1 (mw_pt (mw_and (mt_cmp (od_eq (Room.u64 hr)) (me_var 0) me_int) (mw_and1 (mt_cmp (od_eq (Room.u64 hr)) (me_ix ixd (me_var 2) me_int) me_int)))))))
 (mss_one (ms_ret (me_fn (ok__law_like Z) (hr.mono (by decide)) (ma_cons (me_var 4) (ma_cons (me_tup (ma_cons me_str (ma_cons me_str (ma_cons (me_un ud_neg me_int) ma_nil)))) ma_nil)))))
 mss_nil)
 (mss_one (ms_ret (me_fn (ok__law_reckoned Z) (hr.mono (by decide)) (ma_cons (me_var 0) (ma_cons (me_var 1) (ma_cons (me_var 2) (ma_cons (me_var 4) ma_nil))))))))))))
theorem sc__law_alone : FnScope N__law_alone ["_law_value_here", "_law_named"] (defScope s__law_alone) := ⟨rfl, rfl, rfl, by decide +kernel, rfl, by decide +kernel, by decide +kernel⟩
theorem ok__law_alone (Z : Ft P w K mg base) : OkD P w K mg base 9 "_law_alone" s__law_alone ["_law_value_here", "_law_named"] rf__law_alone := okd Z.g__law_alone Z.f__law_alone sc__law_alone (fun _ _ _ _ _ _ us hl => match us, hl with | [_, _], _ => rfl) (fun cdv A outer s H E hr =>
 (mss_cons (ms_set 2 (me_and (me_fn (ok__law_whole Z) (hr.mono (by decide)) (ma_cons (me_var 0) ma_nil)) (me_and (me_cmp od_le (me_un ud_neg me_int) (me_var 0)) (me_one (me_cmp od_lt (me_var 0) me_int)))))
 (mss_cons (ms_set 3 (me_lst (ma_cons (me_tup (ma_cons me_str (ma_cons (me_fn (ok__law_whole Z) (hr.mono (by decide)) (ma_cons (me_var 0) ma_nil)) ma_nil))) (ma_cons (me_tup (ma_cons me_str (ma_cons (me_fn (ok__law_quotient Z) (hr.mono (by decide)) (ma_cons (me_var 0) ma_nil)) ma_nil))) ma_nil))))
 (mss_cons (ms_expr (me_bm F.slot_list_append rfl md_append (me_var 3) (ma_cons (me_tup (ma_cons me_str (ma_cons (me_and (me_fn (ok__law_quotient Z) (hr.mono (by decide)) (ma_cons (me_var 0) ma_nil)) (me_one (me_cmp od_gt (me_ix ixd (me_var 0) me_int) me_int))) ma_nil))) ma_nil)))
 (mss_cons (ms_if (mt_val (me_var 2))
 (mss_cons (ms_expr (me_bm F.slot_list_append rfl md_append (me_var 3) (ma_cons (me_tup (ma_cons me_str (ma_cons (me_ix ixd (me_lst (ma_cons (me_un ud_neg me_int) (ma_cons (me_un ud_neg me_int) (ma_cons (me_un ud_neg me_int) (ma_cons (me_un ud_neg me_int) ma_nil))))) (me_bin od_add (me_var 0) me_int)) ma_nil))) ma_nil)))
 (mss_cons (ms_expr (me_bm F.slot_list_append rfl md_append (me_var 3) (ma_cons (me_tup (ma_cons me_str (ma_cons (me_ix ixd (me_lst (ma_cons (me_un ud_neg me_int) (ma_cons (me_un ud_neg me_int) (ma_cons (me_un ud_neg me_int) (ma_cons (me_un ud_neg me_int) ma_nil))))) (me_bin od_add (me_var 0) me_int)) ma_nil))) ma_nil)))
 (mss_one (ms_expr (me_bm F.slot_list_append rfl md_append (me_var 3) (ma_cons (me_tup (ma_cons me_str (ma_cons (me_ix ixd me_str (me_bin od_add (me_var 0) me_int)) ma_nil))) ma_nil))))))
 (mss_cons (ms_expr (me_bm F.slot_list_append rfl md_append (me_var 3) (ma_cons (me_tup (ma_cons me_str (ma_cons me_str (ma_cons (me_un ud_neg me_int) ma_nil)))) ma_nil)))
 (mss_cons (ms_expr (me_bm F.slot_list_append rfl md_append (me_var 3) (ma_cons (me_tup (ma_cons me_str (ma_cons me_str (ma_cons (me_un ud_neg me_int) ma_nil)))) ma_nil)))
 (mss_one (ms_if (mw_pt (mw_and (mt_val (me_fn (ok__law_whole Z) (hr.mono (by decide)) (ma_cons (me_var 0) ma_nil))) (mw_and1 (mt_cmp od_ge (me_var 0) me_int))))
 (mss_one (ms_expr (me_bm F.slot_list_append rfl md_append (me_var 3) (ma_cons (me_tup (ma_cons me_str (ma_cons (me_callTy cd_str (ma_cons (me_var 0) ma_nil) Z.fr_str) ma_nil))) ma_nil))))
 (mss_one (ms_expr (me_bm F.slot_list_append rfl md_append (me_var 3) (ma_cons (me_tup (ma_cons me_str (ma_cons me_str (ma_cons (me_un ud_neg me_int) ma_nil)))) ma_nil)))))))))
 (mss_cons (ms_for (mi_range1 (ma_cons me_int ma_nil) Z.fr_range) (mg_name 4)
 (mss_one (ms_if (mt_not (mt_val (me_fn (ok__law_like Z) (hr.mono (by decide)) (ma_cons (me_fn (ok__law_single Z) (hr.mono (by decide)) (ma_cons (me_var 4) (ma_cons (me_var 0) (ma_cons (me_var 1) ma_nil)))) (ma_cons (me_ix ixd (me_var 3) (me_var 4)) ma_nil)))))
 (mss_one (ms_ret me_bl))
 mss_nil)))
 (mss_one (ms_ret me_bl))))))))
theorem sc__law_papers : FnScope N__law_papers ["_law_first", "_law_second"] (defScope s__law_papers) := ⟨rfl, rfl, rfl, by decide +kernel, rfl, by decide +kernel, by decide +kernel⟩
theorem ok__law_papers (Z : Ft P w K mg base) : OkD P w K mg base 3 "_law_papers" s__law_papers ["_law_first", "_law_second"] rf__law_papers := okd Z.g__law_papers Z.f__law_papers sc__law_papers (fun _ _ _ _ _ _ us hl => match us, hl with | [_, _], _ => rfl) (fun cdv A outer s H E hr =>
 (mss_cons (ms_set 2 (me_lst (ma_cons (me_var 0) ma_nil)))
 (mss_cons (ms_set 3 (me_lst (ma_cons (me_var 1) ma_nil)))
 (mss_cons (ms_set 4 (me_lst (ma_cons (me_errV (x := "InvalidPaper") (fs := ["word", "at"]) (ks := []) (n := 2) (pm := @pmA) Z.v_InvalidPaper_0 (hr.mono (by decide)) (ma_cons (me_var 2) (ma_cons (me_var 3) ma_nil)) mk_nil) (ma_cons (me_errV0 (x := "InvalidPaper") (fs := ["word", "at"]) (ks := ["at", "word"]) (pm := @pm10) Z.v_InvalidPaper_1 (hr.mono (by decide)) (mk_cons (me_var 3) (mk_cons (me_var 2) mk_nil))) ma_nil))))
 (mss_cons (ms_set 5 (me_lst (ma_cons (me_errV (x := "NotUsable") (fs := ["word", "at"]) (ks := []) (n := 2) (pm := @pmA) Z.v_NotUsable_2 (hr.mono (by decide)) (ma_cons (me_var 2) (ma_cons (me_var 3) ma_nil)) mk_nil) (ma_cons (me_errV0 (x := "NotUsable") (fs := ["word", "at"]) (ks := ["at", "word"]) (pm := @pm10) Z.v_NotUsable_3 (hr.mono (by decide)) (mk_cons (me_var 3) (mk_cons (me_var 2) mk_nil))) ma_nil))))
 (mss_cons (ms_set 6 (me_errV (x := "InvalidSketch") (fs := ["word", "at"]) (ks := ["at"]) (n := 1) (pm := @pmA) Z.v_InvalidSketch_4 (hr.mono (by decide)) (ma_cons (me_var 2) ma_nil) (mk_cons (me_var 3) mk_nil)))
 (mss_cons (ms_expr (me_bm F.slot_list_append rfl md_append (me_var 2) (ma_cons me_int ma_nil)))
 (mss_cons (ms_expr (me_bm F.slot_list_append rfl md_append (me_var 3) (ma_cons (me_var 1) ma_nil)))
 (mss_cons (ms_for (mi_seq (me_var 4)) (mg_name 7)
 (mss_cons (ms_if (mw_pt (mw_or (mt_cmp (od_ne (Room.u64 hr)) (me_xv (.cons Z.e_InvalidEvent.gm Z.e_InvalidEvent.er (.cons Z.e_InvalidPaper.gm Z.e_InvalidPaper.er (.cons Z.e_InvalidSketch.gm Z.e_InvalidSketch.er (.cons Z.e_InvalidText.gm Z.e_InvalidText.er (.cons Z.e_NotUsable.gm Z.e_NotUsable.er (.cons Z.e_NothingToUndo.gm Z.e_NothingToUndo.er (.cons Z.e_Unfit.gm Z.e_Unfit.er .nil))))))) (me_var 7)) (me_var 2)) (mw_or (mt_cmp (od_ne (Room.u64 hr)) (me_xv (.cons Z.e_InvalidEvent.gm Z.e_InvalidEvent.er (.cons Z.e_InvalidPaper.gm Z.e_InvalidPaper.er (.cons Z.e_InvalidSketch.gm Z.e_InvalidSketch.er (.cons Z.e_InvalidText.gm Z.e_InvalidText.er (.cons Z.e_NotUsable.gm Z.e_NotUsable.er (.cons Z.e_NothingToUndo.gm Z.e_NothingToUndo.er (.cons Z.e_Unfit.gm Z.e_Unfit.er .nil))))))) (me_var 7)) (me_var 3)) (mw_or (mt_not (mt_val (me_isV pinned_none (.cons Z.e_InvalidEvent.gm Z.xc_InvalidEvent Z.ki_InvalidEvent_PaperError (.cons Z.e_InvalidPaper.gm Z.xc_InvalidPaper Z.ki_InvalidPaper_PaperError (.cons Z.e_InvalidSketch.gm Z.xc_InvalidSketch Z.ki_InvalidSketch_PaperError (.cons Z.e_InvalidText.gm Z.xc_InvalidText Z.ki_InvalidText_PaperError (.cons Z.e_NotUsable.gm Z.xc_NotUsable Z.ki_NotUsable_PaperError (.cons Z.e_NothingToUndo.gm Z.xc_NothingToUndo Z.ki_NothingToUndo_PaperError (.cons Z.e_Unfit.gm Z.xc_Unfit Z.ki_Unfit_PaperError .nil))))))) Z.fr_isinstance (pe_glob (v := V.ref (He.ga K "PaperError")) rfl Z.gc_PaperError rfl) (fun _ h => h) (me_var 7)))) (mw_or1 (mt_val (me_isV pinned_none (.cons Z.e_InvalidEvent.gm Z.xc_InvalidEvent Z.ki_InvalidEvent_PlanError (.cons Z.e_InvalidPaper.gm Z.xc_InvalidPaper Z.ki_InvalidPaper_PlanError (.cons Z.e_InvalidSketch.gm Z.xc_InvalidSketch Z.ki_InvalidSketch_PlanError (.cons Z.e_InvalidText.gm Z.xc_InvalidText Z.ki_InvalidText_PlanError (.cons Z.e_NotUsable.gm Z.xc_NotUsable Z.ki_NotUsable_PlanError (.cons Z.e_NothingToUndo.gm Z.xc_NothingToUndo Z.ki_NothingToUndo_PlanError (.cons Z.e_Unfit.gm Z.xc_Unfit Z.ki_Unfit_PlanError .nil))))))) Z.fr_isinstance (pe_glob (v := V.ref (He.ga K "PlanError")) rfl Z.gc_PlanError rfl) (fun _ h => h) (me_var 7))))))))
 (mss_one (ms_ret me_bl))
 mss_nil)
 (mss_one (ms_if (mw_pt (mw_or (mt_not (mt_val (me_isV pinned_none (.cons Z.e_InvalidEvent.gm Z.xc_InvalidEvent Z.ki_InvalidEvent_HangError (.cons Z.e_InvalidPaper.gm Z.xc_InvalidPaper Z.ki_InvalidPaper_HangError (.cons Z.e_InvalidSketch.gm Z.xc_InvalidSketch Z.ki_InvalidSketch_HangError (.cons Z.e_InvalidText.gm Z.xc_InvalidText Z.ki_InvalidText_HangError (.cons Z.e_NotUsable.gm Z.xc_NotUsable Z.ki_NotUsable_HangError (.cons Z.e_NothingToUndo.gm Z.xc_NothingToUndo Z.ki_NothingToUndo_HangError (.cons Z.e_Unfit.gm Z.xc_Unfit Z.ki_Unfit_HangError .nil))))))) Z.fr_isinstance (pe_glob (v := V.ref (He.ga K "HangError")) rfl Z.gc_HangError rfl) (fun _ h => h) (me_var 7)))) (mw_or (mt_not (mt_val (me_isV pinned_none (.cons Z.e_InvalidEvent.gm Z.xc_InvalidEvent Z.ki_InvalidEvent_ValueError (.cons Z.e_InvalidPaper.gm Z.xc_InvalidPaper Z.ki_InvalidPaper_ValueError (.cons Z.e_InvalidSketch.gm Z.xc_InvalidSketch Z.ki_InvalidSketch_ValueError (.cons Z.e_InvalidText.gm Z.xc_InvalidText Z.ki_InvalidText_ValueError (.cons Z.e_NotUsable.gm Z.xc_NotUsable Z.ki_NotUsable_ValueError (.cons Z.e_NothingToUndo.gm Z.xc_NothingToUndo Z.ki_NothingToUndo_ValueError (.cons Z.e_Unfit.gm Z.xc_Unfit Z.ki_Unfit_ValueError .nil))))))) Z.fr_isinstance (pe_bltn (v := V.ty "ValueError") rfl Z.fr_ValueError (by decide +kernel) rfl (by decide) (by decide)) (fun _ h => h) (me_var 7)))) (mw_or1 (mt_val (me_isV pinned_none (.cons Z.e_InvalidEvent.gm Z.xc_InvalidEvent Z.ki_InvalidEvent_TextError (.cons Z.e_InvalidPaper.gm Z.xc_InvalidPaper Z.ki_InvalidPaper_TextError (.cons Z.e_InvalidSketch.gm Z.xc_InvalidSketch Z.ki_InvalidSketch_TextError (.cons Z.e_InvalidText.gm Z.xc_InvalidText Z.ki_InvalidText_TextError (.cons Z.e_NotUsable.gm Z.xc_NotUsable Z.ki_NotUsable_TextError (.cons Z.e_NothingToUndo.gm Z.xc_NothingToUndo Z.ki_NothingToUndo_TextError (.cons Z.e_Unfit.gm Z.xc_Unfit Z.ki_Unfit_TextError .nil))))))) Z.fr_isinstance (pe_glob (v := V.ref (He.ga K "TextError")) rfl Z.gc_TextError rfl) (fun _ h => h) (me_var 7)))))))
 (mss_one (ms_ret me_bl))
 mss_nil))))
 (mss_cons (ms_for (mi_seq (me_var 5)) (mg_name 7)
 (mss_one (ms_if (mw_pt (mw_or (mt_cmp (od_ne (Room.u64 hr)) (me_xv (.cons Z.e_InvalidEvent.gm Z.e_InvalidEvent.er (.cons Z.e_InvalidPaper.gm Z.e_InvalidPaper.er (.cons Z.e_InvalidSketch.gm Z.e_InvalidSketch.er (.cons Z.e_InvalidText.gm Z.e_InvalidText.er (.cons Z.e_NotUsable.gm Z.e_NotUsable.er (.cons Z.e_NothingToUndo.gm Z.e_NothingToUndo.er (.cons Z.e_Unfit.gm Z.e_Unfit.er .nil))))))) (me_var 7)) (me_var 2)) (mw_or (mt_cmp (od_ne (Room.u64 hr)) (me_xv (.cons Z.e_InvalidEvent.gm Z.e_InvalidEvent.er (.cons Z.e_InvalidPaper.gm Z.e_InvalidPaper.er (.cons Z.e_InvalidSketch.gm Z.e_InvalidSketch.er (.cons Z.e_InvalidText.gm Z.e_InvalidText.er (.cons Z.e_NotUsable.gm Z.e_NotUsable.er (.cons Z.e_NothingToUndo.gm Z.e_NothingToUndo.er (.cons Z.e_Unfit.gm Z.e_Unfit.er .nil))))))) (me_var 7)) (me_var 3)) (mw_or1 (mt_not (mt_val (me_fn (ok__law_kin Z) (hr.mono (by decide)) (ma_cons (me_var 7) ma_nil))))))))
 (mss_one (ms_ret me_bl))
 mss_nil)))
 (mss_cons (ms_if (mw_pt (mw_or (mt_cmp (od_ne (Room.u64 hr)) (me_xv (.cons Z.e_InvalidEvent.gm Z.e_InvalidEvent.er (.cons Z.e_InvalidPaper.gm Z.e_InvalidPaper.er (.cons Z.e_InvalidSketch.gm Z.e_InvalidSketch.er (.cons Z.e_InvalidText.gm Z.e_InvalidText.er (.cons Z.e_NotUsable.gm Z.e_NotUsable.er (.cons Z.e_NothingToUndo.gm Z.e_NothingToUndo.er (.cons Z.e_Unfit.gm Z.e_Unfit.er .nil))))))) (me_var 6)) (me_var 2)) (mw_or (mt_cmp (od_ne (Room.u64 hr)) (me_xv (.cons Z.e_InvalidEvent.gm Z.e_InvalidEvent.er (.cons Z.e_InvalidPaper.gm Z.e_InvalidPaper.er (.cons Z.e_InvalidSketch.gm Z.e_InvalidSketch.er (.cons Z.e_InvalidText.gm Z.e_InvalidText.er (.cons Z.e_NotUsable.gm Z.e_NotUsable.er (.cons Z.e_NothingToUndo.gm Z.e_NothingToUndo.er (.cons Z.e_Unfit.gm Z.e_Unfit.er .nil))))))) (me_var 6)) (me_var 3)) (mw_or (mt_val (me_isV pinned_none (.cons Z.e_InvalidEvent.gm Z.xc_InvalidEvent Z.ki_InvalidEvent_PaperError (.cons Z.e_InvalidPaper.gm Z.xc_InvalidPaper Z.ki_InvalidPaper_PaperError (.cons Z.e_InvalidSketch.gm Z.xc_InvalidSketch Z.ki_InvalidSketch_PaperError (.cons Z.e_InvalidText.gm Z.xc_InvalidText Z.ki_InvalidText_PaperError (.cons Z.e_NotUsable.gm Z.xc_NotUsable Z.ki_NotUsable_PaperError (.cons Z.e_NothingToUndo.gm Z.xc_NothingToUndo Z.ki_NothingToUndo_PaperError (.cons Z.e_Unfit.gm Z.xc_Unfit Z.ki_Unfit_PaperError .nil))))))) Z.fr_isinstance (pe_glob (v := V.ref (He.ga K "PaperError")) rfl Z.gc_PaperError rfl) (fun _ h => h) (me_var 6))) (mw_or1 (mt_val (me_isV pinned_none (.cons Z.e_InvalidEvent.gm Z.xc_InvalidEvent Z.ki_InvalidEvent_PlanError (.cons Z.e_InvalidPaper.gm Z.xc_InvalidPaper Z.ki_InvalidPaper_PlanError (.cons Z.e_InvalidSketch.gm Z.xc_InvalidSketch Z.ki_InvalidSketch_PlanError (.cons Z.e_InvalidText.gm Z.xc_InvalidText Z.ki_InvalidText_PlanError (.cons Z.e_NotUsable.gm Z.xc_NotUsable Z.ki_NotUsable_PlanError (.cons Z.e_NothingToUndo.gm Z.xc_NothingToUndo Z.ki_NothingToUndo_PlanError (.cons Z.e_Unfit.gm Z.xc_Unfit Z.ki_Unfit_PlanError .nil))))))) Z.fr_isinstance (pe_glob (v := V.ref (He.ga K "PlanError")) rfl Z.gc_PlanError rfl) (fun _ h => h) (me_var 6))))))))
 (mss_one (ms_ret me_bl))
 mss_nil)
 (mss_one (ms_ret (me_and (me_isV pinned_none (.cons Z.e_InvalidEvent.gm Z.xc_InvalidEvent Z.ki_InvalidEvent_TextError (.cons Z.e_InvalidPaper.gm Z.xc_InvalidPaper Z.ki_InvalidPaper_TextError (.cons Z.e_InvalidSketch.gm Z.xc_InvalidSketch Z.ki_InvalidSketch_TextError (.cons Z.e_InvalidText.gm Z.xc_InvalidText Z.ki_InvalidText_TextError (.cons Z.e_NotUsable.gm Z.xc_NotUsable Z.ki_NotUsable_TextError (.cons Z.e_NothingToUndo.gm Z.xc_NothingToUndo Z.ki_NothingToUndo_TextError (.cons Z.e_Unfit.gm Z.xc_Unfit Z.ki_Unfit_TextError .nil))))))) Z.fr_isinstance (pe_glob (v := V.ref (He.ga K "TextError")) rfl Z.gc_TextError rfl) (fun _ h => h) (me_var 6)) (me_and (me_isV pinned_none (.cons Z.e_InvalidEvent.gm Z.xc_InvalidEvent Z.ki_InvalidEvent_HangError (.cons Z.e_InvalidPaper.gm Z.xc_InvalidPaper Z.ki_InvalidPaper_HangError (.cons Z.e_InvalidSketch.gm Z.xc_InvalidSketch Z.ki_InvalidSketch_HangError (.cons Z.e_InvalidText.gm Z.xc_InvalidText Z.ki_InvalidText_HangError (.cons Z.e_NotUsable.gm Z.xc_NotUsable Z.ki_NotUsable_HangError (.cons Z.e_NothingToUndo.gm Z.xc_NothingToUndo Z.ki_NothingToUndo_HangError (.cons Z.e_Unfit.gm Z.xc_Unfit Z.ki_Unfit_HangError .nil))))))) Z.fr_isinstance (pe_glob (v := V.ref (He.ga K "HangError")) rfl Z.gc_HangError rfl) (fun _ h => h) (me_var 6)) (me_one (me_not (me_isV pinned_none (.cons Z.e_InvalidEvent.gm Z.xc_InvalidEvent Z.ki_InvalidEvent_InvalidText (.cons Z.e_InvalidPaper.gm Z.xc_InvalidPaper Z.ki_InvalidPaper_InvalidText (.cons Z.e_InvalidSketch.gm Z.xc_InvalidSketch Z.ki_InvalidSketch_InvalidText (.cons Z.e_InvalidText.gm Z.xc_InvalidText Z.ki_InvalidText_InvalidText (.cons Z.e_NotUsable.gm Z.xc_NotUsable Z.ki_NotUsable_InvalidText (.cons Z.e_NothingToUndo.gm Z.xc_NothingToUndo Z.ki_NothingToUndo_InvalidText (.cons Z.e_Unfit.gm Z.xc_Unfit Z.ki_Unfit_InvalidText .nil))))))) Z.fr_isinstance (pe_glob (v := V.ref (He.ga K "InvalidText")) rfl Z.gc_InvalidText rfl) (fun _ h => h) (me_var 6)))))))))))))))))))
theorem sc__law_errors : FnScope N__law_errors ["_law_first", "_law_second"] (defScope s__law_errors) := ⟨rfl, rfl, rfl, by decide +kernel, rfl, by decide +kernel, by decide +kernel⟩
theorem ok__law_errors (Z : Ft P w K mg base) : OkD P w K mg base 3 "_law_errors" s__law_errors ["_law_first", "_law_second"] rf__law_errors := okd Z.g__law_errors Z.f__law_errors sc__law_errors (fun _ _ _ _ _ _ us hl => match us, hl with | [_, _], _ => rfl) (fun cdv A outer s H E hr =>
 (mss_cons (ms_set 2 (me_lst (ma_cons (me_var 0) ma_nil)))
 (mss_cons (ms_set 3 (me_lst (ma_cons (me_var 1) ma_nil)))
 (mss_cons (ms_set 4 (me_errV0 (x := "Unfit") (fs := ["barring"]) (ks := ["barring"]) (pm := @pm01) Z.v_Unfit_5 (hr.mono (by decide)) (mk_cons (me_var 2) mk_nil)))
 (mss_cons (ms_set 5 (me_errV0 (x := "InvalidEvent") (fs := ["event", "reason"]) (ks := ["reason", "event"]) (pm := @pm10) Z.v_InvalidEvent_6 (hr.mono (by decide)) (mk_cons (me_var 3) (mk_cons (me_var 2) mk_nil))))
 (mss_cons (ms_set 6 (me_errV (x := "NothingToUndo") (fs := ["steps"]) (ks := []) (n := 1) (pm := @pmA) Z.v_NothingToUndo_7 (hr.mono (by decide)) (ma_cons (me_var 2) ma_nil) mk_nil))
 (mss_cons (ms_set 7 (me_errV (x := "InvalidText") (fs := ["line", "field"]) (ks := ["field"]) (n := 1) (pm := @pmA) Z.v_InvalidText_8 (hr.mono (by decide)) (ma_cons (me_var 2) ma_nil) (mk_cons (me_var 3) mk_nil)))
 (mss_cons (ms_expr (me_bm F.slot_list_append rfl md_append (me_var 2) (ma_cons (me_var 1) ma_nil)))
 (mss_cons (ms_expr (me_bm F.slot_list_append rfl md_append (me_var 3) (ma_cons me_int ma_nil)))
 (mss_cons (ms_if (mw_pt (mw_or (mt_cmp (od_ne (Room.u64 hr)) (me_xv (.cons Z.e_InvalidEvent.gm Z.e_InvalidEvent.er (.cons Z.e_InvalidPaper.gm Z.e_InvalidPaper.er (.cons Z.e_InvalidSketch.gm Z.e_InvalidSketch.er (.cons Z.e_InvalidText.gm Z.e_InvalidText.er (.cons Z.e_NotUsable.gm Z.e_NotUsable.er (.cons Z.e_NothingToUndo.gm Z.e_NothingToUndo.er (.cons Z.e_Unfit.gm Z.e_Unfit.er .nil))))))) (me_var 4)) (me_var 2)) (mw_or (mt_not (mt_val (me_isV pinned_none (.cons Z.e_InvalidEvent.gm Z.xc_InvalidEvent Z.ki_InvalidEvent_PlanError (.cons Z.e_InvalidPaper.gm Z.xc_InvalidPaper Z.ki_InvalidPaper_PlanError (.cons Z.e_InvalidSketch.gm Z.xc_InvalidSketch Z.ki_InvalidSketch_PlanError (.cons Z.e_InvalidText.gm Z.xc_InvalidText Z.ki_InvalidText_PlanError (.cons Z.e_NotUsable.gm Z.xc_NotUsable Z.ki_NotUsable_PlanError (.cons Z.e_NothingToUndo.gm Z.xc_NothingToUndo Z.ki_NothingToUndo_PlanError (.cons Z.e_Unfit.gm Z.xc_Unfit Z.ki_Unfit_PlanError .nil))))))) Z.fr_isinstance (pe_glob (v := V.ref (He.ga K "PlanError")) rfl Z.gc_PlanError rfl) (fun _ h => h) (me_var 4)))) (mw_or1 (mt_val (me_isV pinned_none (.cons Z.e_InvalidEvent.gm Z.xc_InvalidEvent Z.ki_InvalidEvent_NotUsable (.cons Z.e_InvalidPaper.gm Z.xc_InvalidPaper Z.ki_InvalidPaper_NotUsable (.cons Z.e_InvalidSketch.gm Z.xc_InvalidSketch Z.ki_InvalidSketch_NotUsable (.cons Z.e_InvalidText.gm Z.xc_InvalidText Z.ki_InvalidText_NotUsable (.cons Z.e_NotUsable.gm Z.xc_NotUsable Z.ki_NotUsable_NotUsable (.cons Z.e_NothingToUndo.gm Z.xc_NothingToUndo Z.ki_NothingToUndo_NotUsable (.cons Z.e_Unfit.gm Z.xc_Unfit Z.ki_Unfit_NotUsable .nil))))))) Z.fr_isinstance (pe_glob (v := V.ref (He.ga K "NotUsable")) rfl Z.gc_NotUsable rfl) (fun _ h => h) (me_var 4)))))))
 (mss_one (ms_ret me_bl))
 mss_nil)
 (mss_cons (ms_if (mw_pt (mw_or (mt_cmp (od_ne (Room.u64 hr)) (me_xv (.cons Z.e_InvalidEvent.gm Z.e_InvalidEvent.er (.cons Z.e_InvalidPaper.gm Z.e_InvalidPaper.er (.cons Z.e_InvalidSketch.gm Z.e_InvalidSketch.er (.cons Z.e_InvalidText.gm Z.e_InvalidText.er (.cons Z.e_NotUsable.gm Z.e_NotUsable.er (.cons Z.e_NothingToUndo.gm Z.e_NothingToUndo.er (.cons Z.e_Unfit.gm Z.e_Unfit.er .nil))))))) (me_var 5)) (me_var 2)) (mw_or (mt_cmp (od_ne (Room.u64 hr)) (me_xv (.cons Z.e_InvalidEvent.gm Z.e_InvalidEvent.er (.cons Z.e_InvalidPaper.gm Z.e_InvalidPaper.er (.cons Z.e_InvalidSketch.gm Z.e_InvalidSketch.er (.cons Z.e_InvalidText.gm Z.e_InvalidText.er (.cons Z.e_NotUsable.gm Z.e_NotUsable.er (.cons Z.e_NothingToUndo.gm Z.e_NothingToUndo.er (.cons Z.e_Unfit.gm Z.e_Unfit.er .nil))))))) (me_var 5)) (me_var 3)) (mw_or (mt_not (mt_val (me_isV pinned_none (.cons Z.e_InvalidEvent.gm Z.xc_InvalidEvent Z.ki_InvalidEvent_LiveError (.cons Z.e_InvalidPaper.gm Z.xc_InvalidPaper Z.ki_InvalidPaper_LiveError (.cons Z.e_InvalidSketch.gm Z.xc_InvalidSketch Z.ki_InvalidSketch_LiveError (.cons Z.e_InvalidText.gm Z.xc_InvalidText Z.ki_InvalidText_LiveError (.cons Z.e_NotUsable.gm Z.xc_NotUsable Z.ki_NotUsable_LiveError (.cons Z.e_NothingToUndo.gm Z.xc_NothingToUndo Z.ki_NothingToUndo_LiveError (.cons Z.e_Unfit.gm Z.xc_Unfit Z.ki_Unfit_LiveError .nil))))))) Z.fr_isinstance (pe_glob (v := V.ref (He.ga K "LiveError")) rfl Z.gc_LiveError rfl) (fun _ h => h) (me_var 5)))) (mw_or1 (mt_val (me_isV pinned_none (.cons Z.e_InvalidEvent.gm Z.xc_InvalidEvent Z.ki_InvalidEvent_PlanError (.cons Z.e_InvalidPaper.gm Z.xc_InvalidPaper Z.ki_InvalidPaper_PlanError (.cons Z.e_InvalidSketch.gm Z.xc_InvalidSketch Z.ki_InvalidSketch_PlanError (.cons Z.e_InvalidText.gm Z.xc_InvalidText Z.ki_InvalidText_PlanError (.cons Z.e_NotUsable.gm Z.xc_NotUsable Z.ki_NotUsable_PlanError (.cons Z.e_NothingToUndo.gm Z.xc_NothingToUndo Z.ki_NothingToUndo_PlanError (.cons Z.e_Unfit.gm Z.xc_Unfit Z.ki_Unfit_PlanError .nil))))))) Z.fr_isinstance (pe_glob (v := V.ref (He.ga K "PlanError")) rfl Z.gc_PlanError rfl) (fun _ h => h) (me_var 5))))))))
 (mss_one (ms_ret me_bl))
 mss_nil)
 (mss_cons (ms_if (mw_pt (mw_or (mt_cmp (od_ne (Room.u64 hr)) (me_xv (.cons Z.e_InvalidEvent.gm Z.e_InvalidEvent.er (.cons Z.e_InvalidPaper.gm Z.e_InvalidPaper.er (.cons Z.e_InvalidSketch.gm Z.e_InvalidSketch.er (.cons Z.e_InvalidText.gm Z.e_InvalidText.er (.cons Z.e_NotUsable.gm Z.e_NotUsable.er (.cons Z.e_NothingToUndo.gm Z.e_NothingToUndo.er (.cons Z.e_Unfit.gm Z.e_Unfit.er .nil))))))) (me_var 6)) (me_var 2)) (mw_or (mt_not (mt_val (me_isV pinned_none (.cons Z.e_InvalidEvent.gm Z.xc_InvalidEvent Z.ki_InvalidEvent_LiveError (.cons Z.e_InvalidPaper.gm Z.xc_InvalidPaper Z.ki_InvalidPaper_LiveError (.cons Z.e_InvalidSketch.gm Z.xc_InvalidSketch Z.ki_InvalidSketch_LiveError (.cons Z.e_InvalidText.gm Z.xc_InvalidText Z.ki_InvalidText_LiveError (.cons Z.e_NotUsable.gm Z.xc_NotUsable Z.ki_NotUsable_LiveError (.cons Z.e_NothingToUndo.gm Z.xc_NothingToUndo Z.ki_NothingToUndo_LiveError (.cons Z.e_Unfit.gm Z.xc_Unfit Z.ki_Unfit_LiveError .nil))))))) Z.fr_isinstance (pe_glob (v := V.ref (He.ga K "LiveError")) rfl Z.gc_LiveError rfl) (fun _ h => h) (me_var 6)))) (mw_or1 (mt_val (me_isV pinned_none (.cons Z.e_InvalidEvent.gm Z.xc_InvalidEvent Z.ki_InvalidEvent_InvalidEvent (.cons Z.e_InvalidPaper.gm Z.xc_InvalidPaper Z.ki_InvalidPaper_InvalidEvent (.cons Z.e_InvalidSketch.gm Z.xc_InvalidSketch Z.ki_InvalidSketch_InvalidEvent (.cons Z.e_InvalidText.gm Z.xc_InvalidText Z.ki_InvalidText_InvalidEvent (.cons Z.e_NotUsable.gm Z.xc_NotUsable Z.ki_NotUsable_InvalidEvent (.cons Z.e_NothingToUndo.gm Z.xc_NothingToUndo Z.ki_NothingToUndo_InvalidEvent (.cons Z.e_Unfit.gm Z.xc_Unfit Z.ki_Unfit_InvalidEvent .nil))))))) Z.fr_isinstance (pe_glob (v := V.ref (He.ga K "InvalidEvent")) rfl Z.gc_InvalidEvent rfl) (fun _ h => h) (me_var 6)))))))
 (mss_one (ms_ret me_bl))
 mss_nil)
 (mss_cons (ms_if (mw_pt (mw_or (mt_cmp (od_ne (Room.u64 hr)) (me_xv (.cons Z.e_InvalidEvent.gm Z.e_InvalidEvent.er (.cons Z.e_InvalidPaper.gm Z.e_InvalidPaper.er (.cons Z.e_InvalidSketch.gm Z.e_InvalidSketch.er (.cons Z.e_InvalidText.gm Z.e_InvalidText.er (.cons Z.e_NotUsable.gm Z.e_NotUsable.er (.cons Z.e_NothingToUndo.gm Z.e_NothingToUndo.er (.cons Z.e_Unfit.gm Z.e_Unfit.er .nil))))))) (me_var 7)) (me_var 2)) (mw_or (mt_cmp (od_ne (Room.u64 hr)) (me_xv (.cons Z.e_InvalidEvent.gm Z.e_InvalidEvent.er (.cons Z.e_InvalidPaper.gm Z.e_InvalidPaper.er (.cons Z.e_InvalidSketch.gm Z.e_InvalidSketch.er (.cons Z.e_InvalidText.gm Z.e_InvalidText.er (.cons Z.e_NotUsable.gm Z.e_NotUsable.er (.cons Z.e_NothingToUndo.gm Z.e_NothingToUndo.er (.cons Z.e_Unfit.gm Z.e_Unfit.er .nil))))))) (me_var 7)) (me_var 3)) (mw_or (mt_not (mt_val (me_isV pinned_none (.cons Z.e_InvalidEvent.gm Z.xc_InvalidEvent Z.ki_InvalidEvent_TextError (.cons Z.e_InvalidPaper.gm Z.xc_InvalidPaper Z.ki_InvalidPaper_TextError (.cons Z.e_InvalidSketch.gm Z.xc_InvalidSketch Z.ki_InvalidSketch_TextError (.cons Z.e_InvalidText.gm Z.xc_InvalidText Z.ki_InvalidText_TextError (.cons Z.e_NotUsable.gm Z.xc_NotUsable Z.ki_NotUsable_TextError (.cons Z.e_NothingToUndo.gm Z.xc_NothingToUndo Z.ki_NothingToUndo_TextError (.cons Z.e_Unfit.gm Z.xc_Unfit Z.ki_Unfit_TextError .nil))))))) Z.fr_isinstance (pe_glob (v := V.ref (He.ga K "TextError")) rfl Z.gc_TextError rfl) (fun _ h => h) (me_var 7)))) (mw_or1 (mt_val (me_isV pinned_none (.cons Z.e_InvalidEvent.gm Z.xc_InvalidEvent Z.ki_InvalidEvent_InvalidSketch (.cons Z.e_InvalidPaper.gm Z.xc_InvalidPaper Z.ki_InvalidPaper_InvalidSketch (.cons Z.e_InvalidSketch.gm Z.xc_InvalidSketch Z.ki_InvalidSketch_InvalidSketch (.cons Z.e_InvalidText.gm Z.xc_InvalidText Z.ki_InvalidText_InvalidSketch (.cons Z.e_NotUsable.gm Z.xc_NotUsable Z.ki_NotUsable_InvalidSketch (.cons Z.e_NothingToUndo.gm Z.xc_NothingToUndo Z.ki_NothingToUndo_InvalidSketch (.cons Z.e_Unfit.gm Z.xc_Unfit Z.ki_Unfit_InvalidSketch .nil))))))) Z.fr_isinstance (pe_glob (v := V.ref (He.ga K "InvalidSketch")) rfl Z.gc_InvalidSketch rfl) (fun _ h => h) (me_var 7))))))))
 (mss_one (ms_ret me_bl))
 mss_nil)
 (mss_cons (ms_for (mi_seq (me_lst (ma_cons (me_var 4) (ma_cons (me_var 5) (ma_cons (me_var 6) (ma_cons (me_var 7) ma_nil)))))) (mg_name 8)
 (mss_one (ms_if (mw_pt (mw_or (mt_not (mt_val (me_isV pinned_none (.cons Z.e_InvalidEvent.gm Z.xc_InvalidEvent Z.ki_InvalidEvent_HangError (.cons Z.e_InvalidPaper.gm Z.xc_InvalidPaper Z.ki_InvalidPaper_HangError (.cons Z.e_InvalidSketch.gm Z.xc_InvalidSketch Z.ki_InvalidSketch_HangError (.cons Z.e_InvalidText.gm Z.xc_InvalidText Z.ki_InvalidText_HangError (.cons Z.e_NotUsable.gm Z.xc_NotUsable Z.ki_NotUsable_HangError (.cons Z.e_NothingToUndo.gm Z.xc_NothingToUndo Z.ki_NothingToUndo_HangError (.cons Z.e_Unfit.gm Z.xc_Unfit Z.ki_Unfit_HangError .nil))))))) Z.fr_isinstance (pe_glob (v := V.ref (He.ga K "HangError")) rfl Z.gc_HangError rfl) (fun _ h => h) (me_var 8)))) (mw_or (mt_not (mt_val (me_isV pinned_none (.cons Z.e_InvalidEvent.gm Z.xc_InvalidEvent Z.ki_InvalidEvent_ValueError (.cons Z.e_InvalidPaper.gm Z.xc_InvalidPaper Z.ki_InvalidPaper_ValueError (.cons Z.e_InvalidSketch.gm Z.xc_InvalidSketch Z.ki_InvalidSketch_ValueError (.cons Z.e_InvalidText.gm Z.xc_InvalidText Z.ki_InvalidText_ValueError (.cons Z.e_NotUsable.gm Z.xc_NotUsable Z.ki_NotUsable_ValueError (.cons Z.e_NothingToUndo.gm Z.xc_NothingToUndo Z.ki_NothingToUndo_ValueError (.cons Z.e_Unfit.gm Z.xc_Unfit Z.ki_Unfit_ValueError .nil))))))) Z.fr_isinstance (pe_bltn (v := V.ty "ValueError") rfl Z.fr_ValueError (by decide +kernel) rfl (by decide) (by decide)) (fun _ h => h) (me_var 8)))) (mw_or1 (mt_val (me_isV pinned_none (.cons Z.e_InvalidEvent.gm Z.xc_InvalidEvent Z.ki_InvalidEvent_PaperError (.cons Z.e_InvalidPaper.gm Z.xc_InvalidPaper Z.ki_InvalidPaper_PaperError (.cons Z.e_InvalidSketch.gm Z.xc_InvalidSketch Z.ki_InvalidSketch_PaperError (.cons Z.e_InvalidText.gm Z.xc_InvalidText Z.ki_InvalidText_PaperError (.cons Z.e_NotUsable.gm Z.xc_NotUsable Z.ki_NotUsable_PaperError (.cons Z.e_NothingToUndo.gm Z.xc_NothingToUndo Z.ki_NothingToUndo_PaperError (.cons Z.e_Unfit.gm Z.xc_Unfit Z.ki_Unfit_PaperError .nil))))))) Z.fr_isinstance (pe_glob (v := V.ref (He.ga K "PaperError")) rfl Z.gc_PaperError rfl) (fun _ h => h) (me_var 8)))))))
 (mss_one (ms_ret me_bl))
 mss_nil)))
 (mss_one (ms_ret (me_and (me_not (me_isV pinned_none (.cons Z.e_InvalidEvent.gm Z.xc_InvalidEvent Z.ki_InvalidEvent_NothingToUndo (.cons Z.e_InvalidPaper.gm Z.xc_InvalidPaper Z.ki_InvalidPaper_NothingToUndo (.cons Z.e_InvalidSketch.gm Z.xc_InvalidSketch Z.ki_InvalidSketch_NothingToUndo (.cons Z.e_InvalidText.gm Z.xc_InvalidText Z.ki_InvalidText_NothingToUndo (.cons Z.e_NotUsable.gm Z.xc_NotUsable Z.ki_NotUsable_NothingToUndo (.cons Z.e_NothingToUndo.gm Z.xc_NothingToUndo Z.ki_NothingToUndo_NothingToUndo (.cons Z.e_Unfit.gm Z.xc_Unfit Z.ki_Unfit_NothingToUndo .nil))))))) Z.fr_isinstance (pe_glob (v := V.ref (He.ga K "NothingToUndo")) rfl Z.gc_NothingToUndo rfl) (fun _ h => h) (me_var 5))) (me_one (me_not (me_isV pinned_none (.cons Z.e_InvalidEvent.gm Z.xc_InvalidEvent Z.ki_InvalidEvent_LiveError (.cons Z.e_InvalidPaper.gm Z.xc_InvalidPaper Z.ki_InvalidPaper_LiveError (.cons Z.e_InvalidSketch.gm Z.xc_InvalidSketch Z.ki_InvalidSketch_LiveError (.cons Z.e_InvalidText.gm Z.xc_InvalidText Z.ki_InvalidText_LiveError (.cons Z.e_NotUsable.gm Z.xc_NotUsable Z.ki_NotUsable_LiveError (.cons Z.e_NothingToUndo.gm Z.xc_NothingToUndo Z.ki_NothingToUndo_LiveError (.cons Z.e_Unfit.gm Z.xc_Unfit Z.ki_Unfit_LiveError .nil))))))) Z.fr_isinstance (pe_glob (v := V.ref (He.ga K "LiveError")) rfl Z.gc_LiveError rfl) (fun _ h => h) (me_var 7)))))))))))))))))))))
theorem sc__law_long : FnScope N__law_long ["_law_pool_here"] (defScope s__law_long) := ⟨rfl, rfl, rfl, by decide +kernel, rfl, by decide +kernel, by decide +kernel⟩
theorem ok__law_long (Z : Ft P w K mg base) : OkD P w K mg base 3 "_law_long" s__law_long ["_law_pool_here"] rf__law_long := okd Z.g__law_long Z.f__law_long sc__law_long (fun _ _ _ _ _ _ us hl => match us, hl with | [_], _ => rfl) (fun cdv A outer s H E hr =>
 (mss_cons (ms_set 1 (me_bin od_mul (me_bin od_mul (me_bin od_mul (me_bin od_mul (me_bin od_pow me_int me_int) (me_bin od_pow me_int me_int)) (me_bin od_pow me_int me_int)) (me_bin od_pow me_int me_int)) (me_bin od_pow me_int me_int)))
 (mss_cons (ms_set 2 (me_fn (ok__law_low Z) (hr.mono (by decide)) (ma_cons (me_bin od_add (me_var 1) (me_fn (ok__law_take Z) (hr.mono (by decide)) (ma_cons (me_var 0) (ma_cons me_int ma_nil)))) (ma_cons (me_bin od_sub (me_bin od_sub (me_bin od_mul me_int (me_var 1)) me_int) (me_fn (ok__law_take Z) (hr.mono (by decide)) (ma_cons (me_var 0) (ma_cons me_int ma_nil)))) ma_nil))))
 (mss_cons (ms_set 3 (me_fn (ok__law_low Z) (hr.mono (by decide)) (ma_cons (me_bin od_sub (me_fn (ok__law_take Z) (hr.mono (by decide)) (ma_cons (me_var 0) (ma_cons me_int ma_nil))) (me_var 1)) (ma_cons (me_bin od_add (me_bin od_add (me_bin od_mul me_int (me_var 1)) me_int) (me_fn (ok__law_take Z) (hr.mono (by decide)) (ma_cons (me_var 0) (ma_cons me_int ma_nil)))) ma_nil))))
 (mss_one (ms_ret (me_lst (ma_cons (me_var 2) (ma_cons (me_var 3) ma_nil)))))))))
theorem sc__law_row : FnScope N__law_row ["_law_pool_here"] (defScope s__law_row) := ⟨rfl, rfl, rfl, by decide +kernel, rfl, by decide +kernel, by decide +kernel⟩
theorem ok__law_row (Z : Ft P w K mg base) : OkD P w K mg base 5 "_law_row" s__law_row ["_law_pool_here"] rf__law_row := okd Z.g__law_row Z.f__law_row sc__law_row (fun _ _ _ _ _ _ us hl => match us, hl with | [_], _ => rfl) (fun cdv A outer s H E hr =>
 (mss_cons (ms_set 1 (me_fn (ok__law_take Z) (hr.mono (by decide)) (ma_cons (me_var 0) (ma_cons me_int ma_nil))))
 (mss_cons (ms_if (mt_cmp (od_eq (Room.u64 hr)) (me_fn (ok__law_take Z) (hr.mono (by decide)) (ma_cons (me_var 0) (ma_cons me_int ma_nil))) me_int)
 (mss_cons (ms_set 2 (me_bin od_mul (me_lst (ma_cons (me_tup (ma_cons (me_bin od_add me_int (me_fn (ok__law_take Z) (hr.mono (by decide)) (ma_cons (me_var 0) (ma_cons me_int ma_nil)))) (ma_cons me_int ma_nil))) ma_nil)) me_int))
 (mss_cons (ms_set 3 (me_fn (ok__law_take Z) (hr.mono (by decide)) (ma_cons (me_var 0) (ma_cons me_int ma_nil))))
 (mss_one (ms_ret (me_bin od_add (me_bin od_add (me_slH (me_var 2) (me_var 3)) (me_lst (ma_cons (me_fn (ok__law_value Z) (hr.mono (by decide)) (ma_cons (me_var 0) ma_nil)) ma_nil))) (me_slL (me_var 2) (me_bin od_add (me_var 3) me_int)))))))
 mss_nil)
 (mss_cons (ms_set 2 (me_lst ma_nil))
 (mss_cons (ms_for (mi_range1 (ma_cons (me_var 1) ma_nil) Z.fr_range) (mg_name 4)
 (mss_cons (ms_set 5 (me_fn (ok__law_take Z) (hr.mono (by decide)) (ma_cons (me_var 0) (ma_cons me_int ma_nil))))
 (mss_one (ms_if (mt_cmp (od_eq (Room.u64 hr)) (me_var 5) me_int)
 (mss_one (ms_expr (me_bm F.slot_list_append rfl md_append (me_var 2) (ma_cons (me_fn (ok__law_value Z) (hr.mono (by decide)) (ma_cons (me_var 0) ma_nil)) ma_nil))))
 (mss_one (ms_if (mt_cmp (od_eq (Room.u64 hr)) (me_var 5) me_int)
 (mss_one (ms_expr (me_bm F.slot_list_append rfl md_append (me_var 2) (ma_cons (me_tup (ma_cons me_int (ma_cons me_int ma_nil))) ma_nil))))
 (mss_one (ms_expr (me_bm F.slot_list_append rfl md_append (me_var 2) (ma_cons (me_fn (ok__law_low Z) (hr.mono (by decide)) (ma_cons (me_bin od_add me_int (me_fn (ok__law_take Z) (hr.mono (by decide)) (ma_cons (me_var 0) (ma_cons me_int ma_nil)))) (ma_cons (me_bin od_add me_int (me_fn (ok__law_take Z) (hr.mono (by decide)) (ma_cons (me_var 0) (ma_cons me_int ma_nil)))) ma_nil))) ma_nil))))))))))
 (mss_one (ms_ret (me_var 2))))))))
theorem sc_law : FnScope N_law ["_law_script"] (defScope s_law) := ⟨rfl, rfl, rfl, by decide +kernel, rfl, by decide +kernel, by decide +kernel⟩
theorem ok_law (Z : Ft P w K mg base) : OkD P w K mg base 11 "law" s_law ["_law_script"] rf_law := okd Z.g_law Z.f_law sc_law (fun _ _ _ _ _ _ us hl => match us, hl with | [_], _ => rfl) (fun cdv A outer s H E hr =>
 (mss_cons (ms_set 1 (me_fn (ok__law_pool Z) (hr.mono (by decide)) (ma_cons (me_var 0) ma_nil)))
 (mss_cons (ms_set 2 (me_cmp (od_eq (Room.u64 hr)) (me_fn (ok__law_take Z) (hr.mono (by decide)) (ma_cons (me_var 1) (ma_cons me_int ma_nil))) me_int))
 (mss_cons (ms_set 3 (me_lst (ma_cons (me_fn (ok__law_value Z) (hr.mono (by decide)) (ma_cons (me_var 1) ma_nil)) (ma_cons (me_fn (ok__law_value Z) (hr.mono (by decide)) (ma_cons (me_var 1) ma_nil)) (ma_cons (me_fn (ok__law_value Z) (hr.mono (by decide)) (ma_cons (me_var 1) ma_nil)) ma_nil)))))
 (mss_cons (ms_set 4 (me_lst (ma_cons (me_fn (ok__law_small Z) (hr.mono (by decide)) (ma_cons (me_var 1) ma_nil)) (ma_cons (me_fn (ok__law_small Z) (hr.mono (by decide)) (ma_cons (me_var 1) ma_nil)) ma_nil))))
 (mss_cons (ms_if (mt_cmp (od_eq (Room.u64 hr)) (me_fn (ok__law_take Z) (hr.mono (by decide)) (ma_cons (me_var 1) (ma_cons me_int ma_nil))) me_int)
 (mss_one (ms_set 4 (me_fn (ok__law_long Z) (hr.mono (by decide)) (ma_cons (me_var 1) ma_nil))))
 mss_nil)
 (mss_cons (ms_for (mi_seq (me_bin od_add (me_var 3) (me_lst (ma_cons (me_bin od_sub (me_fn (ok__law_take Z) (hr.mono (by decide)) (ma_cons (me_var 1) (ma_cons me_int ma_nil))) me_int) (ma_cons (me_fn (ok__law_take Z) (hr.mono (by decide)) (ma_cons (me_var 1) (ma_cons me_int ma_nil))) ma_nil))))) (mg_name 5)
 (mss_one (ms_if (mt_not (mt_val (me_fn (ok__law_alone Z) (hr.mono (by decide)) (ma_cons (me_var 5) (ma_cons (me_var 2) ma_nil)))))
 (mss_one (ms_ret me_bl))
 mss_nil)))
 (mss_cons (ms_for (mi_range1 (ma_cons me_int ma_nil) Z.fr_range) (mg_name 6)
 (mss_cons (ms_if (mw_pt (mw_or (mt_not (mt_val (me_fn (ok__law_pair Z) (hr.mono (by decide)) (ma_cons (me_var 6) (ma_cons (me_ix ixd (me_var 4) me_int) (ma_cons (me_ix ixd (me_var 4) me_int) (ma_cons (me_var 2) ma_nil))))))) (mw_or1 (mt_not (mt_val (me_fn (ok__law_pair Z) (hr.mono (by decide)) (ma_cons (me_var 6) (ma_cons (me_ix ixd (me_var 4) me_int) (ma_cons (me_ix ixd (me_var 4) me_int) (ma_cons (me_not (me_var 2)) ma_nil))))))))))
 (mss_one (ms_ret me_bl))
 mss_nil)
 (mss_cons (ms_if (mw_pt (mw_or (mt_not (mt_val (me_fn (ok__law_pair Z) (hr.mono (by decide)) (ma_cons (me_var 6) (ma_cons (me_ix ixd (me_var 4) me_int) (ma_cons (me_ix ixd (me_var 3) me_int) (ma_cons (me_var 2) ma_nil))))))) (mw_or1 (mt_not (mt_val (me_fn (ok__law_pair Z) (hr.mono (by decide)) (ma_cons (me_var 6) (ma_cons (me_ix ixd (me_var 3) me_int) (ma_cons (me_ix ixd (me_var 4) me_int) (ma_cons (me_var 2) ma_nil))))))))))
 (mss_one (ms_ret me_bl))
 mss_nil)
 (mss_one (ms_if (mt_not (mt_val (me_fn (ok__law_pair Z) (hr.mono (by decide)) (ma_cons (me_var 6) (ma_cons (me_ix ixd (me_var 3) me_int) (ma_cons (me_ix ixd (me_var 3) me_int) (ma_cons (me_not (me_var 2)) ma_nil)))))))
 (mss_one (ms_ret me_bl))
 mss_nil)))))
 (mss_cons (ms_set 7 (me_fn (ok__law_row Z) (hr.mono (by decide)) (ma_cons (me_var 1) ma_nil)))
 (mss_cons (ms_set 8 (me_ix ixd (me_lst (ma_cons (me_un ud_neg me_int) (ma_cons me_bl (ma_cons me_bl (ma_cons me_non (ma_cons me_str (ma_cons (me_tup (ma_cons me_int ma_nil)) (ma_cons (me_lst (ma_cons me_int ma_nil)) (ma_cons (me_bin od_sub me_int (me_bin od_pow me_int me_int)) (ma_cons (me_tup (ma_cons me_int (ma_cons me_int ma_nil))) ma_nil)))))))))) (me_fn (ok__law_take Z) (hr.mono (by decide)) (ma_cons (me_var 1) (ma_cons me_int ma_nil)))))
 (mss_cons (ms_for (mi_seq (me_lst (ma_cons (me_callB cd_len (ma_cons (me_var 7) ma_nil) Z.fr_len) (ma_cons (me_callB (cd_max rfl) (ma_cons me_int (ma_cons (me_bin od_sub (me_callB cd_len (ma_cons (me_var 7) ma_nil) Z.fr_len) me_int) ma_nil)) Z.fr_max) (ma_cons (me_bin od_add (me_callB cd_len (ma_cons (me_var 7) ma_nil) Z.fr_len) me_int) (ma_cons me_int (ma_cons (me_bin od_pow me_int me_int) (ma_cons (me_var 8) ma_nil)))))))) (mg_name 9)
 (mss_cons (ms_for (mi_seq (me_lst (ma_cons me_int (ma_cons me_int ma_nil)))) (mg_name 6)
 (mss_one (ms_if (mw_pt (mw_or (mt_not (mt_val (me_fn (ok__law_pair Z) (hr.mono (by decide)) (ma_cons (me_var 6) (ma_cons (me_var 9) (ma_cons (me_callTy cd_tuple (ma_cons (me_var 7) ma_nil) Z.fr_tuple) (ma_cons (me_var 2) ma_nil))))))) (mw_or1 (mt_not (mt_val (me_fn (ok__law_pair Z) (hr.mono (by decide)) (ma_cons (me_var 6) (ma_cons (me_var 9) (ma_cons (me_callTy cd_list (ma_cons (me_var 7) ma_nil) Z.fr_list) (ma_cons (me_not (me_var 2)) ma_nil))))))))))
 (mss_one (ms_ret me_bl))
 mss_nil)))
 (mss_cons (ms_if (mw_pt (mw_or (mt_not (mt_val (me_fn (ok__law_pair Z) (hr.mono (by decide)) (ma_cons me_int (ma_cons (me_var 9) (ma_cons (me_ix ixd (me_var 3) me_int) (ma_cons (me_var 2) ma_nil))))))) (mw_or1 (mt_not (mt_val (me_fn (ok__law_pair Z) (hr.mono (by decide)) (ma_cons me_int (ma_cons (me_var 9) (ma_cons (me_tup ma_nil) (ma_cons (me_var 2) ma_nil))))))))))
 (mss_one (ms_ret me_bl))
 mss_nil)
 (mss_one (ms_for (mi_seq (me_lst (ma_cons (me_ix ixd (me_var 3) me_int) (ma_cons (me_un ud_neg me_int) (ma_cons (me_un ud_neg me_int) (ma_cons (me_un ud_neg me_int) (ma_cons me_int (ma_cons (me_bin od_sub (me_callB cd_len (ma_cons (me_var 7) ma_nil) Z.fr_len) me_int) (ma_cons (me_callB cd_len (ma_cons (me_var 7) ma_nil) Z.fr_len) (ma_cons me_bl ma_nil)))))))))) (mg_name 5)
 (mss_one (ms_if (mt_not (mt_val (me_fn (ok__law_pair Z) (hr.mono (by decide)) (ma_cons me_int (ma_cons (me_var 9) (ma_cons (me_var 5) (ma_cons (me_var 2) ma_nil)))))))
 (mss_one (ms_ret me_bl))
 mss_nil)))))))
 (mss_cons (ms_set 10 (me_fn (ok__law_take Z) (hr.mono (by decide)) (ma_cons (me_var 1) (ma_cons me_int ma_nil))))
 (mss_one (ms_ret (me_and (me_fn (ok__law_papers Z) (hr.mono (by decide)) (ma_cons (me_var 10) (ma_cons (me_bin od_add (me_var 10) me_int) ma_nil))) (me_one (me_fn (ok__law_errors Z) (hr.mono (by decide)) (ma_cons (me_var 10) (ma_cons (me_bin od_add (me_var 10) me_int) ma_nil)))))))))))))))))))
end LawM

end
section
set_option Elab.async false
set_option linter.all false
set_option maxRecDepth 100000
set_option maxHeartbeats 4000000
/-! the facts -/
namespace LawM
open PySem PySem.Spec PyProof.Rows L2 MP
variable {P : Program} {w : World} {K : PySem.W.Frag} {mg : Str → Option Value} {h base : Heap}
theorem fun_at (c : SaysM fn ex K) (i : Nat) {x : Str} {st : Stmt} (e : fn[i]? = some (defQ x st) := by rfl) : ∃ fd, Fun K x x st (He.ga K x) fd := by
  obtain ⟨fd, F⟩ := c.defs.def_ i (d := defQ x st) e
  exact ⟨fd, fun_of F⟩
theorem facts (X : K.In h) (G : h.Ns mainGlobals mg) (c : SaysM fn ex K) : Ft P w K mg base := by
  have m := c.more
  unfold ex at m
  simp only [Bool.and_eq_true] at m
  obtain ⟨⟨m1, m2, m3, m4⟩, m5, m6, m7, m8, m9⟩ := m
  exact {
    fr_ValueError := free_of X G m1 (by decide)
    fr_abs := free_of X G m1 (by decide)
    fr_all := free_of X G m1 (by decide)
    fr_bool := free_of X G m1 (by decide)
    fr_int := free_of X G m1 (by decide)
    fr_isinstance := free_of X G m1 (by decide)
    fr_len := free_of X G m1 (by decide)
    fr_list := free_of X G m1 (by decide)
    fr_max := free_of X G m1 (by decide)
    fr_range := free_of X G m1 (by decide)
    fr_str := free_of X G m1 (by decide)
    fr_tuple := free_of X G m1 (by decide)
    bl_gcd := blt_of X G m2 (by decide)
    g_is_integer := glo_of X G m3 (by decide)
    g_is_quotient := glo_of X G m3 (by decide)
    g_is_positive := glo_of X G m3 (by decide)
    g__need_number := glo_of X G m3 (by decide)
    g_is_shapes := glo_of X G m3 (by decide)
    g_is_table := glo_of X G m3 (by decide)
    g__need_side := glo_of X G m3 (by decide)
    g_side_after := glo_of X G m3 (by decide)
    g_side_opposite := glo_of X G m3 (by decide)
    g_is_place := glo_of X G m3 (by decide)
    g_place_letter := glo_of X G m3 (by decide)
    g_settle := glo_of X G m3 (by decide)
    g__need_two := glo_of X G m3 (by decide)
    g_plus := glo_of X G m3 (by decide)
    g_minus := glo_of X G m3 (by decide)
    g_times := glo_of X G m3 (by decide)
    g_over := glo_of X G m3 (by decide)
    g_is_less := glo_of X G m3 (by decide)
    g__law_mixed := glo_of X G m3 (by decide)
    g__law_pool := glo_of X G m3 (by decide)
    g__law_take := glo_of X G m3 (by decide)
    g__law_whole := glo_of X G m3 (by decide)
    g__law_common := glo_of X G m3 (by decide)
    g__law_low := glo_of X G m3 (by decide)
    g__law_quotient := glo_of X G m3 (by decide)
    g__law_small := glo_of X G m3 (by decide)
    g__law_great := glo_of X G m3 (by decide)
    g__law_value := glo_of X G m3 (by decide)
    g__law_like := glo_of X G m3 (by decide)
    g__law_kin := glo_of X G m3 (by decide)
    g__law_two := glo_of X G m3 (by decide)
    g__law_single := glo_of X G m3 (by decide)
    g__law_all_of := glo_of X G m3 (by decide)
    g__law_reckoned := glo_of X G m3 (by decide)
    g__law_pair := glo_of X G m3 (by decide)
    g__law_alone := glo_of X G m3 (by decide)
    g__law_papers := glo_of X G m3 (by decide)
    g__law_errors := glo_of X G m3 (by decide)
    g__law_long := glo_of X G m3 (by decide)
    g__law_row := glo_of X G m3 (by decide)
    g_law := glo_of X G m3 (by decide)
    f_is_integer := fun_at c 0
    f_is_quotient := fun_at c 1
    f_is_positive := fun_at c 2
    f__need_number := fun_at c 3
    f_is_shapes := fun_at c 4
    f_is_table := fun_at c 5
    f__need_side := fun_at c 6
    f_side_after := fun_at c 7
    f_side_opposite := fun_at c 8
    f_is_place := fun_at c 9
    f_place_letter := fun_at c 10
    f_settle := fun_at c 11
    f__need_two := fun_at c 12
    f_plus := fun_at c 13
    f_minus := fun_at c 14
    f_times := fun_at c 15
    f_over := fun_at c 16
    f_is_less := fun_at c 17
    f__law_mixed := fun_at c 18
    f__law_pool := fun_at c 19
    f__law_take := fun_at c 20
    f__law_whole := fun_at c 21
    f__law_common := fun_at c 22
    f__law_low := fun_at c 23
    f__law_quotient := fun_at c 24
    f__law_small := fun_at c 25
    f__law_great := fun_at c 26
    f__law_value := fun_at c 27
    f__law_like := fun_at c 28
    f__law_kin := fun_at c 29
    f__law_two := fun_at c 30
    f__law_single := fun_at c 31
    f__law_all_of := fun_at c 32
    f__law_reckoned := fun_at c 33
    f__law_pair := fun_at c 34
    f__law_alone := fun_at c 35
    f__law_papers := fun_at c 36
    f__law_errors := fun_at c 37
    f__law_long := fun_at c 38
    f__law_row := fun_at c 39
    f_law := fun_at c 40
    k_LETTERS := cst_of X G m9 (by simp [xcs])
    x_InvalidEvent := exm_of m4 (by decide)
    e_InvalidEvent := by
      obtain ⟨fd, F⟩ := c.defs.def_ 41 (d := iniQ "InvalidEvent" "InvalidEvent.__init__" i_InvalidEvent) rfl
      have F := fun_of (x := "__init__") (q := "InvalidEvent.__init__") (st := i_InvalidEvent) (f := He.ma K (He.ga K "InvalidEvent") "__init__") F
      have E := errB_ok (all_at m5 (x := ("InvalidEvent", ["event", "reason"])) (by decide))
      exact ⟨PySem.W.mg_of X G E.ns, E, fd, ini2 F sci_InvalidEvent E ⟨_, _, _, _, _, _, _, _, rfl⟩, F.binds fun _ _ _ _ _ _ us hl => match us, hl with | [_, _, _], _ => rfl⟩
    x_InvalidPaper := exm_of m4 (by decide)
    e_InvalidPaper := by
      obtain ⟨fd, F⟩ := c.defs.def_ 42 (d := iniQ "InvalidPaper" "InvalidPaper.__init__" i_InvalidPaper) rfl
      have F := fun_of (x := "__init__") (q := "InvalidPaper.__init__") (st := i_InvalidPaper) (f := He.ma K (He.ga K "InvalidPaper") "__init__") F
      have E := errB_ok (all_at m5 (x := ("InvalidPaper", ["word", "at"])) (by decide))
      exact ⟨PySem.W.mg_of X G E.ns, E, fd, ini2 F sci_InvalidPaper E ⟨_, _, _, _, _, _, _, _, rfl⟩, F.binds fun _ _ _ _ _ _ us hl => match us, hl with | [_, _, _], _ => rfl⟩
    x_InvalidSketch := exm_of m4 (by decide)
    e_InvalidSketch := by
      obtain ⟨fd, F⟩ := c.defs.def_ 43 (d := iniQ "InvalidSketch" "InvalidSketch.__init__" i_InvalidSketch) rfl
      have F := fun_of (x := "__init__") (q := "InvalidSketch.__init__") (st := i_InvalidSketch) (f := He.ma K (He.ga K "InvalidSketch") "__init__") F
      have E := errB_ok (all_at m5 (x := ("InvalidSketch", ["word", "at"])) (by decide))
      exact ⟨PySem.W.mg_of X G E.ns, E, fd, ini2 F sci_InvalidSketch E ⟨_, _, _, _, _, _, _, _, rfl⟩, F.binds fun _ _ _ _ _ _ us hl => match us, hl with | [_, _, _], _ => rfl⟩
    x_InvalidText := exm_of m4 (by decide)
    e_InvalidText := by
      obtain ⟨fd, F⟩ := c.defs.def_ 44 (d := iniQ "InvalidText" "InvalidText.__init__" i_InvalidText) rfl
      have F := fun_of (x := "__init__") (q := "InvalidText.__init__") (st := i_InvalidText) (f := He.ma K (He.ga K "InvalidText") "__init__") F
      have E := errB_ok (all_at m5 (x := ("InvalidText", ["line", "field"])) (by decide))
      exact ⟨PySem.W.mg_of X G E.ns, E, fd, ini2 F sci_InvalidText E ⟨_, _, _, _, _, _, _, _, rfl⟩, F.binds fun _ _ _ _ _ _ us hl => match us, hl with | [_, _, _], _ => rfl⟩
    x_NotUsable := exm_of m4 (by decide)
    e_NotUsable := by
      obtain ⟨fd, F⟩ := c.defs.def_ 45 (d := iniQ "NotUsable" "NotUsable.__init__" i_NotUsable) rfl
      have F := fun_of (x := "__init__") (q := "NotUsable.__init__") (st := i_NotUsable) (f := He.ma K (He.ga K "NotUsable") "__init__") F
      have E := errB_ok (all_at m5 (x := ("NotUsable", ["word", "at"])) (by decide))
      exact ⟨PySem.W.mg_of X G E.ns, E, fd, ini2 F sci_NotUsable E ⟨_, _, _, _, _, _, _, _, rfl⟩, F.binds fun _ _ _ _ _ _ us hl => match us, hl with | [_, _, _], _ => rfl⟩
    x_NothingToUndo := exm_of m4 (by decide)
    e_NothingToUndo := by
      obtain ⟨fd, F⟩ := c.defs.def_ 46 (d := iniQ "NothingToUndo" "NothingToUndo.__init__" i_NothingToUndo) rfl
      have F := fun_of (x := "__init__") (q := "NothingToUndo.__init__") (st := i_NothingToUndo) (f := He.ma K (He.ga K "NothingToUndo") "__init__") F
      have E := errB_ok (all_at m5 (x := ("NothingToUndo", ["steps"])) (by decide))
      exact ⟨PySem.W.mg_of X G E.ns, E, fd, ini1 F sci_NothingToUndo E ⟨_, _, _, _, rfl⟩, F.binds fun _ _ _ _ _ _ us hl => match us, hl with | [_, _], _ => rfl⟩
    x_Unfit := exm_of m4 (by decide)
    e_Unfit := by
      obtain ⟨fd, F⟩ := c.defs.def_ 47 (d := iniQ "Unfit" "Unfit.__init__" i_Unfit) rfl
      have F := fun_of (x := "__init__") (q := "Unfit.__init__") (st := i_Unfit) (f := He.ma K (He.ga K "Unfit") "__init__") F
      have E := errB_ok (all_at m5 (x := ("Unfit", ["barring"])) (by decide))
      exact ⟨PySem.W.mg_of X G E.ns, E, fd, ini1 F sci_Unfit E ⟨_, _, _, _, rfl⟩, F.binds fun _ _ _ _ _ _ us hl => match us, hl with | [_, _], _ => rfl⟩
    v_InvalidPaper_0 := by
      obtain ⟨fd, F⟩ := c.defs.def_ 42 (d := iniQ "InvalidPaper" "InvalidPaper.__init__" i_InvalidPaper) rfl
      have F := fun_of (x := "__init__") (q := "InvalidPaper.__init__") (st := i_InvalidPaper) (f := He.ma K (He.ga K "InvalidPaper") "__init__") F
      have E := errB_ok (all_at m5 (x := ("InvalidPaper", ["word", "at"])) (by decide))
      exact ⟨PySem.W.mg_of X G E.ns, E, perm_A, fd, ini2 F sci_InvalidPaper E ⟨_, _, _, _, _, _, _, _, rfl⟩, iniB_of F fun _ _ _ _ _ _ _ us ws h1 h2 => match us, ws, h1, h2 with | [_, _], [], _, _ => rfl⟩
    v_InvalidPaper_1 := by
      obtain ⟨fd, F⟩ := c.defs.def_ 42 (d := iniQ "InvalidPaper" "InvalidPaper.__init__" i_InvalidPaper) rfl
      have F := fun_of (x := "__init__") (q := "InvalidPaper.__init__") (st := i_InvalidPaper) (f := He.ma K (He.ga K "InvalidPaper") "__init__") F
      have E := errB_ok (all_at m5 (x := ("InvalidPaper", ["word", "at"])) (by decide))
      exact ⟨PySem.W.mg_of X G E.ns, E, perm_10, fd, ini2 F sci_InvalidPaper E ⟨_, _, _, _, _, _, _, _, rfl⟩, iniB_of F fun _ _ _ _ _ _ _ us ws h1 h2 => match us, ws, h1, h2 with | [], [_, _], _, _ => rfl⟩
    v_NotUsable_2 := by
      obtain ⟨fd, F⟩ := c.defs.def_ 45 (d := iniQ "NotUsable" "NotUsable.__init__" i_NotUsable) rfl
      have F := fun_of (x := "__init__") (q := "NotUsable.__init__") (st := i_NotUsable) (f := He.ma K (He.ga K "NotUsable") "__init__") F
      have E := errB_ok (all_at m5 (x := ("NotUsable", ["word", "at"])) (by decide))
      exact ⟨PySem.W.mg_of X G E.ns, E, perm_A, fd, ini2 F sci_NotUsable E ⟨_, _, _, _, _, _, _, _, rfl⟩, iniB_of F fun _ _ _ _ _ _ _ us ws h1 h2 => match us, ws, h1, h2 with | [_, _], [], _, _ => rfl⟩
    v_NotUsable_3 := by
      obtain ⟨fd, F⟩ := c.defs.def_ 45 (d := iniQ "NotUsable" "NotUsable.__init__" i_NotUsable) rfl
      have F := fun_of (x := "__init__") (q := "NotUsable.__init__") (st := i_NotUsable) (f := He.ma K (He.ga K "NotUsable") "__init__") F
      have E := errB_ok (all_at m5 (x := ("NotUsable", ["word", "at"])) (by decide))
      exact ⟨PySem.W.mg_of X G E.ns, E, perm_10, fd, ini2 F sci_NotUsable E ⟨_, _, _, _, _, _, _, _, rfl⟩, iniB_of F fun _ _ _ _ _ _ _ us ws h1 h2 => match us, ws, h1, h2 with | [], [_, _], _, _ => rfl⟩
    v_InvalidSketch_4 := by
      obtain ⟨fd, F⟩ := c.defs.def_ 43 (d := iniQ "InvalidSketch" "InvalidSketch.__init__" i_InvalidSketch) rfl
      have F := fun_of (x := "__init__") (q := "InvalidSketch.__init__") (st := i_InvalidSketch) (f := He.ma K (He.ga K "InvalidSketch") "__init__") F
      have E := errB_ok (all_at m5 (x := ("InvalidSketch", ["word", "at"])) (by decide))
      exact ⟨PySem.W.mg_of X G E.ns, E, perm_A, fd, ini2 F sci_InvalidSketch E ⟨_, _, _, _, _, _, _, _, rfl⟩, iniB_of F fun _ _ _ _ _ _ _ us ws h1 h2 => match us, ws, h1, h2 with | [_], [_], _, _ => rfl⟩
    v_Unfit_5 := by
      obtain ⟨fd, F⟩ := c.defs.def_ 47 (d := iniQ "Unfit" "Unfit.__init__" i_Unfit) rfl
      have F := fun_of (x := "__init__") (q := "Unfit.__init__") (st := i_Unfit) (f := He.ma K (He.ga K "Unfit") "__init__") F
      have E := errB_ok (all_at m5 (x := ("Unfit", ["barring"])) (by decide))
      exact ⟨PySem.W.mg_of X G E.ns, E, perm_01, fd, ini1 F sci_Unfit E ⟨_, _, _, _, rfl⟩, iniB_of F fun _ _ _ _ _ _ _ us ws h1 h2 => match us, ws, h1, h2 with | [], [_], _, _ => rfl⟩
    v_InvalidEvent_6 := by
      obtain ⟨fd, F⟩ := c.defs.def_ 41 (d := iniQ "InvalidEvent" "InvalidEvent.__init__" i_InvalidEvent) rfl
      have F := fun_of (x := "__init__") (q := "InvalidEvent.__init__") (st := i_InvalidEvent) (f := He.ma K (He.ga K "InvalidEvent") "__init__") F
      have E := errB_ok (all_at m5 (x := ("InvalidEvent", ["event", "reason"])) (by decide))
      exact ⟨PySem.W.mg_of X G E.ns, E, perm_10, fd, ini2 F sci_InvalidEvent E ⟨_, _, _, _, _, _, _, _, rfl⟩, iniB_of F fun _ _ _ _ _ _ _ us ws h1 h2 => match us, ws, h1, h2 with | [], [_, _], _, _ => rfl⟩
    v_NothingToUndo_7 := by
      obtain ⟨fd, F⟩ := c.defs.def_ 46 (d := iniQ "NothingToUndo" "NothingToUndo.__init__" i_NothingToUndo) rfl
      have F := fun_of (x := "__init__") (q := "NothingToUndo.__init__") (st := i_NothingToUndo) (f := He.ma K (He.ga K "NothingToUndo") "__init__") F
      have E := errB_ok (all_at m5 (x := ("NothingToUndo", ["steps"])) (by decide))
      exact ⟨PySem.W.mg_of X G E.ns, E, perm_A, fd, ini1 F sci_NothingToUndo E ⟨_, _, _, _, rfl⟩, iniB_of F fun _ _ _ _ _ _ _ us ws h1 h2 => match us, ws, h1, h2 with | [_], [], _, _ => rfl⟩
    v_InvalidText_8 := by
      obtain ⟨fd, F⟩ := c.defs.def_ 44 (d := iniQ "InvalidText" "InvalidText.__init__" i_InvalidText) rfl
      have F := fun_of (x := "__init__") (q := "InvalidText.__init__") (st := i_InvalidText) (f := He.ma K (He.ga K "InvalidText") "__init__") F
      have E := errB_ok (all_at m5 (x := ("InvalidText", ["line", "field"])) (by decide))
      exact ⟨PySem.W.mg_of X G E.ns, E, perm_A, fd, ini2 F sci_InvalidText E ⟨_, _, _, _, _, _, _, _, rfl⟩, iniB_of F fun _ _ _ _ _ _ _ us ws h1 h2 => match us, ws, h1, h2 with | [_], [_], _, _ => rfl⟩
    gc_HangError := glo_of X G m3 (by decide)
    gc_InvalidEvent := glo_of X G m3 (by decide)
    gc_InvalidPaper := glo_of X G m3 (by decide)
    gc_InvalidSketch := glo_of X G m3 (by decide)
    gc_InvalidText := glo_of X G m3 (by decide)
    gc_LiveError := glo_of X G m3 (by decide)
    gc_NotUsable := glo_of X G m3 (by decide)
    gc_NothingToUndo := glo_of X G m3 (by decide)
    gc_PaperError := glo_of X G m3 (by decide)
    gc_PlanError := glo_of X G m3 (by decide)
    gc_TextError := glo_of X G m3 (by decide)
    gc_Unfit := glo_of X G m3 (by decide)
    xc_InvalidEvent := excB_ok (all_at m6 (x := ("InvalidEvent" : Str)) (by decide))
    xc_InvalidPaper := excB_ok (all_at m6 (x := ("InvalidPaper" : Str)) (by decide))
    xc_InvalidSketch := excB_ok (all_at m6 (x := ("InvalidSketch" : Str)) (by decide))
    xc_InvalidText := excB_ok (all_at m6 (x := ("InvalidText" : Str)) (by decide))
    xc_NotUsable := excB_ok (all_at m6 (x := ("NotUsable" : Str)) (by decide))
    xc_NothingToUndo := excB_ok (all_at m6 (x := ("NothingToUndo" : Str)) (by decide))
    xc_Unfit := excB_ok (all_at m6 (x := ("Unfit" : Str)) (by decide))
    ki_InvalidEvent_HangError := kioB_ok m7 (by decide)
    ki_InvalidEvent_InvalidEvent := kioB_ok m7 (by decide)
    ki_InvalidEvent_InvalidSketch := kioB_ok m7 (by decide)
    ki_InvalidEvent_InvalidText := kioB_ok m7 (by decide)
    ki_InvalidEvent_LiveError := kioB_ok m7 (by decide)
    ki_InvalidEvent_NotUsable := kioB_ok m7 (by decide)
    ki_InvalidEvent_NothingToUndo := kioB_ok m7 (by decide)
    ki_InvalidEvent_PaperError := kioB_ok m7 (by decide)
    ki_InvalidEvent_PlanError := kioB_ok m7 (by decide)
    ki_InvalidEvent_TextError := kioB_ok m7 (by decide)
    ki_InvalidEvent_Unfit := kioB_ok m7 (by decide)
    ki_InvalidEvent_ValueError := kibB_ok m8 (by decide)
    ki_InvalidPaper_HangError := kioB_ok m7 (by decide)
    ki_InvalidPaper_InvalidEvent := kioB_ok m7 (by decide)
    ki_InvalidPaper_InvalidSketch := kioB_ok m7 (by decide)
    ki_InvalidPaper_InvalidText := kioB_ok m7 (by decide)
    ki_InvalidPaper_LiveError := kioB_ok m7 (by decide)
    ki_InvalidPaper_NotUsable := kioB_ok m7 (by decide)
    ki_InvalidPaper_NothingToUndo := kioB_ok m7 (by decide)
    ki_InvalidPaper_PaperError := kioB_ok m7 (by decide)
    ki_InvalidPaper_PlanError := kioB_ok m7 (by decide)
    ki_InvalidPaper_TextError := kioB_ok m7 (by decide)
    ki_InvalidPaper_Unfit := kioB_ok m7 (by decide)
    ki_InvalidPaper_ValueError := kibB_ok m8 (by decide)
    ki_InvalidSketch_HangError := kioB_ok m7 (by decide)
    ki_InvalidSketch_InvalidEvent := kioB_ok m7 (by decide)
    ki_InvalidSketch_InvalidSketch := kioB_ok m7 (by decide)
    ki_InvalidSketch_InvalidText := kioB_ok m7 (by decide)
    ki_InvalidSketch_LiveError := kioB_ok m7 (by decide)
    ki_InvalidSketch_NotUsable := kioB_ok m7 (by decide)
    ki_InvalidSketch_NothingToUndo := kioB_ok m7 (by decide)
    ki_InvalidSketch_PaperError := kioB_ok m7 (by decide)
    ki_InvalidSketch_PlanError := kioB_ok m7 (by decide)
    ki_InvalidSketch_TextError := kioB_ok m7 (by decide)
    ki_InvalidSketch_Unfit := kioB_ok m7 (by decide)
    ki_InvalidSketch_ValueError := kibB_ok m8 (by decide)
    ki_InvalidText_HangError := kioB_ok m7 (by decide)
    ki_InvalidText_InvalidEvent := kioB_ok m7 (by decide)
    ki_InvalidText_InvalidSketch := kioB_ok m7 (by decide)
    ki_InvalidText_InvalidText := kioB_ok m7 (by decide)
    ki_InvalidText_LiveError := kioB_ok m7 (by decide)
    ki_InvalidText_NotUsable := kioB_ok m7 (by decide)
    ki_InvalidText_NothingToUndo := kioB_ok m7 (by decide)
    ki_InvalidText_PaperError := kioB_ok m7 (by decide)
    ki_InvalidText_PlanError := kioB_ok m7 (by decide)
    ki_InvalidText_TextError := kioB_ok m7 (by decide)
    ki_InvalidText_Unfit := kioB_ok m7 (by decide)
    ki_InvalidText_ValueError := kibB_ok m8 (by decide)
    ki_NotUsable_HangError := kioB_ok m7 (by decide)
    ki_NotUsable_InvalidEvent := kioB_ok m7 (by decide)
    ki_NotUsable_InvalidSketch := kioB_ok m7 (by decide)
    ki_NotUsable_InvalidText := kioB_ok m7 (by decide)
    ki_NotUsable_LiveError := kioB_ok m7 (by decide)
    ki_NotUsable_NotUsable := kioB_ok m7 (by decide)
    ki_NotUsable_NothingToUndo := kioB_ok m7 (by decide)
    ki_NotUsable_PaperError := kioB_ok m7 (by decide)
    ki_NotUsable_PlanError := kioB_ok m7 (by decide)
    ki_NotUsable_TextError := kioB_ok m7 (by decide)
    ki_NotUsable_Unfit := kioB_ok m7 (by decide)
    ki_NotUsable_ValueError := kibB_ok m8 (by decide)
    ki_NothingToUndo_HangError := kioB_ok m7 (by decide)
    ki_NothingToUndo_InvalidEvent := kioB_ok m7 (by decide)
    ki_NothingToUndo_InvalidSketch := kioB_ok m7 (by decide)
    ki_NothingToUndo_InvalidText := kioB_ok m7 (by decide)
    ki_NothingToUndo_LiveError := kioB_ok m7 (by decide)
    ki_NothingToUndo_NotUsable := kioB_ok m7 (by decide)
    ki_NothingToUndo_NothingToUndo := kioB_ok m7 (by decide)
    ki_NothingToUndo_PaperError := kioB_ok m7 (by decide)
    ki_NothingToUndo_PlanError := kioB_ok m7 (by decide)
    ki_NothingToUndo_TextError := kioB_ok m7 (by decide)
    ki_NothingToUndo_Unfit := kioB_ok m7 (by decide)
    ki_NothingToUndo_ValueError := kibB_ok m8 (by decide)
    ki_Unfit_HangError := kioB_ok m7 (by decide)
    ki_Unfit_InvalidEvent := kioB_ok m7 (by decide)
    ki_Unfit_InvalidSketch := kioB_ok m7 (by decide)
    ki_Unfit_InvalidText := kioB_ok m7 (by decide)
    ki_Unfit_LiveError := kioB_ok m7 (by decide)
    ki_Unfit_NotUsable := kioB_ok m7 (by decide)
    ki_Unfit_NothingToUndo := kioB_ok m7 (by decide)
    ki_Unfit_PaperError := kioB_ok m7 (by decide)
    ki_Unfit_PlanError := kioB_ok m7 (by decide)
    ki_Unfit_TextError := kioB_ok m7 (by decide)
    ki_Unfit_Unfit := kioB_ok m7 (by decide)
    ki_Unfit_ValueError := kibB_ok m8 (by decide)
  }
end LawM
end
section
set_option Elab.async false
set_option linter.all false
set_option maxRecDepth 100000
set_option maxHeartbeats 0
/-! the end -/
namespace LawM
open PySem PySem.W PySem.Calls PySem.Spec PyProof.Rows L2 MP
theorem fun_same {K : PySem.W.Frag} {x q : Str} {st : Stmt} {f : Addr} {fd fd' : FuncData} (a : Fun K x q st f fd) (b : Fun K x q st f fd') : fd = fd' := by
  obtain ⟨⟨oc, od, kV, doc, pm, an, cdv, ct, osl, e, lk, hcd⟩, _⟩ := a
  obtain ⟨⟨oc', od', kV', doc', pm', an', cdv', ct', osl', e', lk', hcd'⟩, _⟩ := b
  rw [lk] at lk'
  cases lk'
  rfl
theorem binds_all {K : PySem.W.Frag} {x : Str} {st : Stmt} {f : Addr} {fd : FuncData} {ps : List Str} (F : Fun K x x st f fd) (hb : BindOk x st ps) (s : Shared) (us : List Value) (h : us.length = ps.length) : BindsTo s fd ⟨us, []⟩ (ps.zip us) := by
  obtain ⟨oc, od, kV, doc, pm', an, cdv, ct, osl, rfl, lk, hcd⟩ := F.ex
  exact .of_eq (hb kV doc pm' an cdv ct us h)
theorem ends (pure : ∀ ns : List Int, ns.length ≤ 63 → (∀ z ∈ ns, Builtin.Int.intBits z ≤ 1048576) → ∃ S, rf_law [.frl (ns.map D.int)] [] = .ok (.bl true) S) : PySem.Challenge.rw_hungwall_k00_kinds_quotients_places.Holds := by
  w_on; o_law
  refine HandSHeadRun.head_imp (r := OpenLaw.row PySem.Challenge.rw_hungwall_k00_kinds_quotients_places) (q := view (OpenLaw.row PySem.Challenge.rw_hungwall_k00_kinds_quotients_places).prog [0, 60]) (H := hk) (ob := ob) (M := 6000) (loose := loose) (d := HandSHeadRun.topDef (OpenLaw.row PySem.Challenge.rw_hungwall_k00_kinds_quotients_places).prog 60) (kwd := []) ob_eq
     run (by kernel_rfl) (by kernel_rfl) (by kernel_rfl) (by rfl) (by first | assumption | decide +kernel) (by decide +kernel) ⟨rfl, rfl, rfl, rfl, rfl, by decide +kernel⟩ ?hw ?hc
  case hw => w_witness2
  case hc =>
    refine walk_bits (l := PySem.Challenge.rw_hungwall_k00_kinds_quotients_places) (n := 63) (k := 11) (x := "_law_script") rfl (by decide) (by kernel_rfl) ⟨rfl, by decide, by decide⟩ ?F
    intro w mg fa h Y G hmg0
    obtain ⟨K, KX, c⟩ := Y
    have hmg : mg ("law" : PySem.Str) = some (.ref fa) := by
      have e : (HandSHeadRun.topDef (OpenLaw.row PySem.Challenge.rw_hungwall_k00_kinds_quotients_places).prog 60).name = ("law" : PySem.Str) := by kernel_rfl
      rw [← e]
      exact hmg0
    have Z0 := fun base => facts (P := (PySem.Challenge.rw_hungwall_k00_kinds_quotients_places).prog) (w := w) (base := base) KX G c
    obtain ⟨gm, fd, F, ok0, bd⟩ := ok_law (Z0 h)
    have e := hmg.symm.trans gm
    cases e
    refine ⟨K, fd, spEv ⟨K, mg, none⟩ 1 rf_law, KX, fun s u => binds_all (ps := ["_law_script"]) F (fun _ _ _ _ _ _ us hl => match us, hl with | [_], _ => rfl) s [u] rfl, fun H a ns hl hb hO hS => law_sp hO hS (pure ns hl hb), fun base hB hG => ?_⟩
    obtain ⟨gm2, fd2, F2, ok2, bd2⟩ := ok_law (Z0 base)
    have e2 : fd2 = fd := fun_same F2 F
    subst e2
    exact ok2
end LawM
end
section
set_option Elab.async false
set_option linter.all false
set_option maxRecDepth 100000
set_option maxHeartbeats 4000000
/-! K25: the law. -/
namespace LawM
open PySem PySem.Spec PyProof.Rows L2 MP
theorem all : PySem.Challenge.rw_hungwall_k00_kinds_quotients_places.Holds := ends fun ns hn hb => law_ok fun z hz => bits_bt (hb z hz)
end LawM
end
set_option maxRecDepth 100000 in
set_option maxHeartbeats 0 in
theorem PySem.Challenge.cw_hungwall_k00_kinds_quotients_places_holds : PySem.Challenge.rw_hungwall_k00_kinds_quotients_places.Holds := by
  exact LawM.all
