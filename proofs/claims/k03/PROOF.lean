import PyProof.Rows.All
import Wide.All
import OpenK.AllK
import Wide.FinOn
import HandS.ForMost
import HandS.ForExc
import HandS.Wide
import HandS.IsInst
import HandS.TupAny
import HandS.Conv
import HandS.Evl
import HandS.Defaults
import HandS.Zip
import HandS.SortInts
import HandS.TupLe
import HandS.Deep
import HandS.Strs
import KE.GoesMore
import HandS.SetFor
import HandS.Head0
import HandS.Head1
import HandS.Head2
import HandS.HeadEnd
import HandS.HeadHook1
import HandS.HeadHook2
import PySem.Challenge.RW_orderrows_k03_choices_and_their_numbers
set_option Elab.async false
set_option linter.all false
set_option maxRecDepth 100000
set_option maxHeartbeats 4000000
namespace L3
open PySem PySem.Spec PyProof.Rows L2
variable {K : PySem.W.Frag}

/-! data: what is never written any more is by value; what is written yet stands in the small heap -/
inductive Ty where
  | non | bl | int | str | tup | lst | dic
  deriving DecidableEq
def Ty.nm : Ty → String
  | .non => "NoneType" | .bl => "bool" | .int => "int" | .str => "str" | .tup => "tuple" | .lst => "list" | .dic => "dict"
inductive D where
  | non | bl (b : Bool) | int (i : Int) | str (x : Str) | tup (ds : List D) | lst (ds : List D) | frz (ds : List D)
  | ins (C : Addr) (fs : List (Str × D)) | dic (kvs : List (Key × D)) | ref (a : Addr) | ty (n : Ty)
inductive DO where
  | lst (ds : List D) | dk (kvs : List (Key × D)) | dt (kvs : List (List Key × D)) | ins (C : Addr) (fs : List (Str × D))
abbrev DH := Addr → Option DO
def put (h : DH) (a : Addr) (o : DO) : DH := fun b => if b = a then some o else h b
def era (h : DH) (a : Addr) : DH := fun b => if b = a then none else h b
theorem put_same {h : DH} {a : Addr} {o : DO} : put h a o a = some o := by unfold put; rw [if_pos rfl]
theorem put_ne {h : DH} {a b : Addr} {o : DO} (e : b ≠ a) : put h a o b = h b := by unfold put; rw [if_neg e]
theorem era_same {h : DH} {a : Addr} : era h a a = none := by unfold era; rw [if_pos rfl]
theorem era_ne {h : DH} {a b : Addr} (e : b ≠ a) : era h a b = h b := by unfold era; rw [if_neg e]
theorem put_put {h : DH} {a : Addr} {o u : DO} : put (put h a o) a u = put h a u := by
  funext b; unfold put; split <;> rfl
theorem era_put {h : DH} {a : Addr} {o : DO} (e : h a = none) : era (put h a o) a = h := by
  funext b
  unfold era put
  split
  · rename_i q; rw [q, e]
  · rfl

/-- a list of the written part -/
def KL (K : PySem.W.Frag) (a : Addr) (vs : List V) : Prop := ∃ (o : Obj) (its : Array Value) (n : Nat), K.lookup a = some o ∧ o.cls = .type "list" ∧ o.dict = none ∧ o.data = .seq its n ∧ its.size ≤ sizeLine ∧ Vals vs its.toList
def FrzL (K : PySem.W.Frag) (h : DH) (H : Hp) (a : Addr) (vs : List V) : Prop := (h a = none ∧ ∃ o, H a = some (.frz o (.lst vs))) ∨ KL K a vs
mutual
def Rep (K : PySem.W.Frag) (h : DH) (H : Hp) : D → V → Prop
  | .non, v => v = .non
  | .bl b, v => v = .bl b
  | .int i, v => v = .int i
  | .str x, v => v = .str x
  | .ty n, v => v = .ty n.nm
  | .ref a, v => v = .ref a
  | .tup ds, v => ∃ a vs, v = .ref a ∧ h a = none ∧ H a = some (.tup vs) ∧ RepL K h H ds vs
  | .lst ds, v => ∃ a vs, v = .ref a ∧ h a = none ∧ H a = some (.lst vs) ∧ RepL K h H ds vs
  | .frz ds, v => ∃ a vs, v = .ref a ∧ FrzL K h H a vs ∧ RepL K h H ds vs
  | .dic kvs, v => ∃ a vs, v = .ref a ∧ h a = none ∧ H a = some (.dK vs) ∧ RepK K h H kvs vs
  | .ins C fs, v => ∃ a dx vs, v = .ref a ∧ h a = none ∧ H a = some (.ins C dx vs) ∧ RepF K h H fs vs
def RepL (K : PySem.W.Frag) (h : DH) (H : Hp) : List D → List V → Prop
  | [], vs => vs = []
  | d :: ds, vs => ∃ v r, vs = v :: r ∧ Rep K h H d v ∧ RepL K h H ds r
def RepF (K : PySem.W.Frag) (h : DH) (H : Hp) : List (Str × D) → List (Str × V) → Prop
  | [], vs => vs = []
  | (f, d) :: ds, vs => ∃ v r, vs = (f, v) :: r ∧ Rep K h H d v ∧ RepF K h H ds r
def RepK (K : PySem.W.Frag) (h : DH) (H : Hp) : List (Key × D) → List (Key × V) → Prop
  | [], vs => vs = []
  | (f, d) :: ds, vs => ∃ v r, vs = (f, v) :: r ∧ Rep K h H d v ∧ RepK K h H ds r
end
def RepT (K : PySem.W.Frag) (h : DH) (H : Hp) : List (List Key × D) → List (List Key × V) → Prop
  | [], vs => vs = []
  | (f, d) :: ds, vs => ∃ v r, vs = (f, v) :: r ∧ Rep K h H d v ∧ RepT K h H ds r
def RepO (K : PySem.W.Frag) (h : DH) (H : Hp) : DO → HO → Prop
  | .lst ds, u => ∃ vs, u = .lst vs ∧ RepL K h H ds vs
  | .dk kvs, u => ∃ vs, u = .dK vs ∧ RepK K h H kvs vs
  | .dt kvs, u => ∃ vs, u = .dT vs ∧ RepT K h H kvs vs
  | .ins C fs, u => ∃ dx vs, u = .ins C dx vs ∧ RepF K h H fs vs

/-- what is not tracked stays, and stays untracked -/
def Stay (h : DH) (H : Hp) (h' : DH) (H' : Hp) : Prop := ∀ a o, h a = none → H a = some o → H' a = some o ∧ h' a = none
theorem Stay.refl (h : DH) (H : Hp) : Stay h H h H := fun _ _ e q => ⟨q, e⟩
theorem Stay.trans {h h1 h2 : DH} {H H1 H2 : Hp} (a : Stay h H h1 H1) (b : Stay h1 H1 h2 H2) : Stay h H h2 H2 := fun x o e q =>
  b x o (a x o e q).2 (a x o e q).1
theorem FrzL.stay {h h' : DH} {H H' : Hp} (s : Stay h H h' H') {a : Addr} {vs : List V} (r : FrzL K h H a vs) : FrzL K h' H' a vs := by
  rcases r with ⟨n, o, q⟩ | r
  · exact .inl ⟨(s a _ n q).2, o, (s a _ n q).1⟩
  · exact .inr r
mutual
theorem Rep.stay {h h' : DH} {H H' : Hp} (s : Stay h H h' H') : ∀ (d : D) (v : V), Rep K h H d v → Rep K h' H' d v
  | .non, v, r => by unfold Rep at r ⊢; exact r
  | .bl b, v, r => by unfold Rep at r ⊢; exact r
  | .int i, v, r => by unfold Rep at r ⊢; exact r
  | .str x, v, r => by unfold Rep at r ⊢; exact r
  | .ty n, v, r => by unfold Rep at r ⊢; exact r
  | .ref a, v, r => by unfold Rep at r ⊢; exact r
  | .tup ds, v, r => by
    unfold Rep at r ⊢
    obtain ⟨a, vs, e, n, q, l⟩ := r
    exact ⟨a, vs, e, (s a _ n q).2, (s a _ n q).1, RepL.stay s ds vs l⟩
  | .lst ds, v, r => by
    unfold Rep at r ⊢
    obtain ⟨a, vs, e, n, q, l⟩ := r
    exact ⟨a, vs, e, (s a _ n q).2, (s a _ n q).1, RepL.stay s ds vs l⟩
  | .frz ds, v, r => by
    unfold Rep at r ⊢
    obtain ⟨a, vs, e, q, l⟩ := r
    exact ⟨a, vs, e, FrzL.stay s q, RepL.stay s ds vs l⟩
  | .dic ds, v, r => by
    unfold Rep at r ⊢
    obtain ⟨a, vs, e, n, q, l⟩ := r
    exact ⟨a, vs, e, (s a _ n q).2, (s a _ n q).1, RepK.stay s ds vs l⟩
  | .ins C ds, v, r => by
    unfold Rep at r ⊢
    obtain ⟨a, dx, vs, e, n, q, l⟩ := r
    exact ⟨a, dx, vs, e, (s a _ n q).2, (s a _ n q).1, RepF.stay s ds vs l⟩
theorem RepL.stay {h h' : DH} {H H' : Hp} (s : Stay h H h' H') : ∀ (ds : List D) (vs : List V), RepL K h H ds vs → RepL K h' H' ds vs
  | [], vs, r => by unfold RepL at r ⊢; exact r
  | d :: ds, vs, r => by
    unfold RepL at r ⊢
    obtain ⟨v, t, e, a, b⟩ := r
    exact ⟨v, t, e, Rep.stay s d v a, RepL.stay s ds t b⟩
theorem RepF.stay {h h' : DH} {H H' : Hp} (s : Stay h H h' H') : ∀ (ds : List (Str × D)) (vs : List (Str × V)), RepF K h H ds vs → RepF K h' H' ds vs
  | [], vs, r => by unfold RepF at r ⊢; exact r
  | (f, d) :: ds, vs, r => by
    unfold RepF at r ⊢
    obtain ⟨v, t, e, a, b⟩ := r
    exact ⟨v, t, e, Rep.stay s d v a, RepF.stay s ds t b⟩
theorem RepK.stay {h h' : DH} {H H' : Hp} (s : Stay h H h' H') : ∀ (ds : List (Key × D)) (vs : List (Key × V)), RepK K h H ds vs → RepK K h' H' ds vs
  | [], vs, r => by unfold RepK at r ⊢; exact r
  | (f, d) :: ds, vs, r => by
    unfold RepK at r ⊢
    obtain ⟨v, t, e, a, b⟩ := r
    exact ⟨v, t, e, Rep.stay s d v a, RepK.stay s ds t b⟩
end
theorem RepT.stay {h h' : DH} {H H' : Hp} (s : Stay h H h' H') : ∀ (ds : List (List Key × D)) (vs : List (List Key × V)), RepT K h H ds vs → RepT K h' H' ds vs
  | [], vs, r => by unfold RepT at r ⊢; exact r
  | (f, d) :: ds, vs, r => by
    unfold RepT at r ⊢
    obtain ⟨v, t, e, a, b⟩ := r
    exact ⟨v, t, e, Rep.stay s d v a, RepT.stay s ds t b⟩
theorem RepO.stay {h h' : DH} {H H' : Hp} (s : Stay h H h' H') : ∀ (o : DO) (u : HO), RepO K h H o u → RepO K h' H' o u
  | .lst ds, u, ⟨vs, e, r⟩ => ⟨vs, e, r.stay s⟩
  | .dk ds, u, ⟨vs, e, r⟩ => ⟨vs, e, r.stay s⟩
  | .dt ds, u, ⟨vs, e, r⟩ => ⟨vs, e, r.stay s⟩
  | .ins C ds, u, ⟨dx, vs, e, r⟩ => ⟨dx, vs, e, r.stay s⟩

/-- the small heap is held by the layer's -/
def HAbs (K : PySem.W.Frag) (h : DH) (H : Hp) : Prop := ∀ a o, h a = some o → ∃ u, H a = some u ∧ RepO K h H o u
theorem HAbs.free {h : DH} {H : Hp} (x : HAbs K h H) {a : Addr} (e : H a = none) : h a = none := by
  cases q : h a with
  | none => rfl
  | some o => obtain ⟨u, hu, _⟩ := x a o q; rw [e] at hu; cases hu
abbrev DSt := List (Option D)
def EAbs (K : PySem.W.Frag) (ρ : DSt) (h : DH) (σ : L2.St) (H : Hp) : Prop := ρ.length = σ.length ∧ ∀ (i : Nat) (d : D), ρ[i]? = some (some d) → ∃ v, σ[i]? = some (some v) ∧ Rep K h H d v
theorem EAbs.stay {ρ : DSt} {h h' : DH} {σ : L2.St} {H H' : Hp} (e : EAbs K ρ h σ H) (s : Stay h H h' H') : EAbs K ρ h' σ H' :=
  ⟨e.1, fun i d q => let ⟨v, a, b⟩ := e.2 i d q; ⟨v, a, b.stay s⟩⟩
theorem EAbs.set {ρ : DSt} {h : DH} {σ : L2.St} {H : Hp} (e : EAbs K ρ h σ H) {d : D} {v : V} (r : Rep K h H d v) (i : Nat) : EAbs K (ρ.set i (some d)) h (σ.set i (some v)) H := by
  refine ⟨by simp [e.1], fun j d' q => ?_⟩
  by_cases hj : i = j
  · subst hj
    by_cases hl : i < ρ.length
    · rw [List.getElem?_set_self hl] at q
      cases q
      exact ⟨v, by rw [List.getElem?_set_self (by rw [← e.1]; exact hl)], r⟩
    · rw [List.getElem?_eq_none (by simpa using hl)] at q; cases q
  · rw [List.getElem?_set_ne hj] at q ⊢
    exact e.2 j d' q

/-! changes of both heaps -/
theorem HAbs.stay {h h' : DH} {H H' : Hp} (x : HAbs K h H) (s : Stay h H h' H') (k : ∀ a o, h' a = some o → h a = some o ∧ H' a = H a) : HAbs K h' H' := fun a o e => by
  obtain ⟨e1, e2⟩ := k a o e
  obtain ⟨u, hu, r⟩ := x a o e1
  exact ⟨u, by rw [e2]; exact hu, r.stay s⟩
def Sub (h h' : DH) : Prop := ∀ a o, h a = some o → h' a = some o
theorem Sub.refl (h : DH) : Sub h h := fun _ _ q => q
theorem Sub.trans {h h1 h2 : DH} (a : Sub h h1) (b : Sub h1 h2) : Sub h h2 := fun x o q => b x o (a x o q)
theorem Sub.put {h h' : DH} {p : Addr} {o : DO} (s : Sub h h') (e : h p = none) : Sub h (put h' p o) := fun a u q => by
  have ne : a ≠ p := fun z => by rw [z, e] at q; cases q
  rw [put_ne ne]; exact s a u q
theorem Sub.free {h h' : DH} (s : Sub h h') {a : Addr} (e : h' a = none) : h a = none := by
  cases q : h a with
  | none => rfl
  | some o => rw [s a o q] at e; cases e
theorem Sub.era (h : DH) (p : Addr) : Sub (era h p) h := fun a u q => by
  by_cases ha : a = p
  · subst ha; rw [era_same] at q; cases q
  · rw [era_ne ha] at q; exact q

/-- M: what is seen of H -/
structure Ab (K : PySem.W.Frag) (h : DH) (M H : Hp) : Prop where
  abs : HAbs K h M
  sub : ∀ a o, M a = some o → H a = some o
structure Sy (h : DH) (M H : Hp) (h' : DH) (M' H' : Hp) : Prop where
  st : Stay h M h' M'
  hid : ∀ a o, M a = none → H a = some o → H' a = some o ∧ M' a = none
  dom : ∀ a, H' a = none → H a = none
theorem dom_upd {H : Hp} {p : Addr} {o : HO} : ∀ a, upd H p o a = none → H a = none := fun a q => by
  by_cases e : a = p
  · subst e; rw [upd_same] at q; cases q
  · rw [upd_ne e] at q; exact q
theorem Sy.refl (h : DH) (M H : Hp) : Sy h M H h M H := ⟨Stay.refl h M, fun _ _ e q => ⟨q, e⟩, fun _ q => q⟩
theorem Sy.trans {h h1 h2 : DH} {M M1 M2 H H1 H2 : Hp} (a : Sy h M H h1 M1 H1) (b : Sy h1 M1 H1 h2 M2 H2) : Sy h M H h2 M2 H2 :=
  ⟨a.st.trans b.st, fun x o e q => b.hid x o (a.hid x o e q).2 (a.hid x o e q).1, fun x q => a.dom x (b.dom x q)⟩
section
variable {h : DH} {M H : Hp} {p : Addr} {o : HO} {u u0 : DO}
theorem Ab.freeM (x : Ab K h M H) {a : Addr} (e : H a = none) : M a = none := by
  cases q : M a with
  | none => rfl
  | some o => rw [x.sub a o q] at e; cases e
theorem Ab.free (x : Ab K h M H) {a : Addr} (e : H a = none) : h a = none := x.abs.free (x.freeM e)
/-- a new object that is not tracked -/
theorem sy_new (x : Ab K h M H) (e : H p = none) : Sy h M H h (upd M p o) (upd H p o) :=
  ⟨fun a v n q => ⟨by rw [upd_ne (ne_of_none q (x.freeM e))]; exact q, n⟩, fun a v n q => ⟨by rw [upd_ne (ne_of_none q e)]; exact q, by rw [upd_ne (ne_of_none q e)]; exact n⟩, dom_upd⟩
theorem sub_upd (x : Ab K h M H) : ∀ a v, upd M p o a = some v → upd H p o a = some v := fun a v q => by
  by_cases ha : a = p
  · subst ha; rw [upd_same] at q ⊢; exact q
  · rw [upd_ne ha] at q ⊢; exact x.sub a v q
theorem Ab.new (x : Ab K h M H) (e : H p = none) : Ab K h (upd M p o) (upd H p o) :=
  ⟨x.abs.stay (sy_new x e).st fun a u q => ⟨q, by
    obtain ⟨w, hw, _⟩ := x.abs a u q
    rw [upd_ne (ne_of_none hw (x.freeM e))]⟩, sub_upd x⟩
/-- a new object that is tracked -/
theorem sy_put (x : Ab K h M H) (e : H p = none) : Sy h M H (put h p u) (upd M p o) (upd H p o) :=
  ⟨fun a v n q => ⟨by rw [upd_ne (ne_of_none q (x.freeM e))]; exact q, by rw [put_ne (ne_of_none q (x.freeM e))]; exact n⟩, (sy_new (o := o) x e).hid, dom_upd⟩
theorem Ab.putN (x : Ab K h M H) (e : H p = none) (r : RepO K h M u o) : Ab K (put h p u) (upd M p o) (upd H p o) := ⟨fun a w q => by
  by_cases ha : a = p
  · subst ha
    rw [put_same] at q; cases q
    exact ⟨o, upd_same, r.stay (sy_put x e).st⟩
  · rw [put_ne ha] at q
    obtain ⟨z, hz, rz⟩ := x.abs a w q
    exact ⟨z, by rw [upd_ne ha]; exact hz, rz.stay (sy_put x e).st⟩, sub_upd x⟩
/-- a tracked object is written -/
theorem sy_set (x : Ab K h M H) (e : h p = some u0) : Sy h M H (put h p u) (upd M p o) (upd H p o) := by
  obtain ⟨z, hz, _⟩ := x.abs p u0 e
  refine ⟨fun a v n q => ?_, fun a v n q => ?_, dom_upd⟩
  · have ne : a ≠ p := fun z => by rw [z, e] at n; cases n
    exact ⟨by rw [upd_ne ne]; exact q, by rw [put_ne ne]; exact n⟩
  · have ne : a ≠ p := fun z => by rw [z, hz] at n; cases n
    exact ⟨by rw [upd_ne ne]; exact q, by rw [upd_ne ne]; exact n⟩
theorem Ab.setP (x : Ab K h M H) (e : h p = some u0) (r : RepO K h M u o) : Ab K (put h p u) (upd M p o) (upd H p o) := ⟨fun a w q => by
  by_cases ha : a = p
  · subst ha
    rw [put_same] at q; cases q
    exact ⟨o, upd_same, r.stay (sy_set x e).st⟩
  · rw [put_ne ha] at q
    obtain ⟨z, hz, rz⟩ := x.abs a w q
    exact ⟨z, by rw [upd_ne ha]; exact hz, rz.stay (sy_set x e).st⟩, sub_upd x⟩
/-- some are tracked no more -/
theorem sy_sub {h' : DH} (s : Sub h' h) : Sy h M H h' M H := ⟨fun a o n q => ⟨q, s.free n⟩, fun _ _ n q => ⟨q, n⟩, fun _ q => q⟩
theorem Ab.drop {h' : DH} (x : Ab K h M H) (s : Sub h' h) : Ab K h' M H := ⟨x.abs.stay (sy_sub (H := H) s).st fun a o q => ⟨s a o q, rfl⟩, x.sub⟩
end

/-! the judgements: a wish about data gives the layer's wish -/
abbrev QK := D → DH → Prop
abbrev EK := Value → DSt → DH → Prop
abbrev XE3 := Value → DH → Prop
def Imp (K : PySem.W.Frag) (h : DH) (M H : Hp) (Q3 : QK) (Q : VK) : Prop := ∀ d h' v M' H', Q3 d h' → Ab K h' M' H' → Sy h M H h' M' H' → Rep K h' M' d v → Q v H'
def ImpL (K : PySem.W.Frag) (h : DH) (M H : Hp) (Q3 : List D → DH → Prop) (Q : List V → Hp → Prop) : Prop := ∀ ds h' vs M' H', Q3 ds h' → Ab K h' M' H' → Sy h M H h' M' H' → RepL K h' M' ds vs → Q vs H'
def ImpB (K : PySem.W.Frag) (h : DH) (M H : Hp) (Q3 : Bool → DH → Prop) (Q : Bool → Hp → Prop) : Prop := ∀ b h' M' H', Q3 b h' → Ab K h' M' H' → Sy h M H h' M' H' → Q b H'
def ImpE (K : PySem.W.Frag) (h : DH) (M H : Hp) (E3 : EK) (E : WX) : Prop := ∀ c ρ h' σ M' H', E3 c ρ h' → EAbs K ρ h' σ M' → Ab K h' M' H' → Sy h M H h' M' H' → E c none σ H'
def ImpS (K : PySem.W.Frag) (h : DH) (M H : Hp) (N3 : DSt → DH → Prop) (N : L2.St → Hp → Prop) : Prop := ∀ ρ h' σ M' H', N3 ρ h' → EAbs K ρ h' σ M' → Ab K h' M' H' → Sy h M H h' M' H' → N σ H'
section
variable {h h1 : DH} {M M1 H H1 : Hp}
theorem Imp.stay {Q3 : QK} {Q : VK} (i : Imp K h M H Q3 Q) (s : Sy h M H h1 M1 H1) : Imp K h1 M1 H1 Q3 Q := fun d h' v M' H' q x y r => i d h' v M' H' q x (s.trans y) r
theorem ImpL.stay {Q3 : List D → DH → Prop} {Q : List V → Hp → Prop} (i : ImpL K h M H Q3 Q) (s : Sy h M H h1 M1 H1) : ImpL K h1 M1 H1 Q3 Q := fun d h' v M' H' q x y r => i d h' v M' H' q x (s.trans y) r
theorem ImpB.stay {Q3 : Bool → DH → Prop} {Q : Bool → Hp → Prop} (i : ImpB K h M H Q3 Q) (s : Sy h M H h1 M1 H1) : ImpB K h1 M1 H1 Q3 Q := fun b h' M' H' q x y => i b h' M' H' q x (s.trans y)
theorem ImpE.stay {E3 : EK} {E : WX} (i : ImpE K h M H E3 E) (s : Sy h M H h1 M1 H1) : ImpE K h1 M1 H1 E3 E := fun c ρ h' σ M' H' q e x y => i c ρ h' σ M' H' q e x (s.trans y)
theorem ImpS.stay {N3 : DSt → DH → Prop} {N : L2.St → Hp → Prop} (i : ImpS K h M H N3 N) (s : Sy h M H h1 M1 H1) : ImpS K h1 M1 H1 N3 N := fun ρ h' σ M' H' q e x y => i ρ h' σ M' H' q e x (s.trans y)
end
abbrev U := DSt → DH → QK → EK → Prop
abbrev UT := DSt → DH → (Bool → DH → Prop) → EK → Prop
abbrev UA := DSt → DH → (List D → DH → Prop) → EK → Prop
structure DEnds where
  nx : DSt → DH → Prop
  rt : QK
  bk : DSt → DH → Prop
  ct : DSt → DH → Prop
  ex : EK
abbrev US := DEnds → DSt → DH → Prop
def ImpD (K : PySem.W.Frag) (h : DH) (M H : Hp) (D3 : DEnds) (D' : Ends) (E : WX) : Prop := ImpS K h M H D3.nx D'.nx ∧ Imp K h M H D3.rt D'.rt ∧ ImpS K h M H D3.bk D'.bk ∧ ImpS K h M H D3.ct D'.ct ∧ ImpE K h M H D3.ex E
theorem ImpD.stay {h h1 : DH} {M M1 H H1 : Hp} {D3 : DEnds} {D' : Ends} {E : WX} (i : ImpD K h M H D3 D' E) (s : Sy h M H h1 M1 H1) : ImpD K h1 M1 H1 D3 D' E :=
  ⟨i.1.stay s, i.2.1.stay s, i.2.2.1.stay s, i.2.2.2.1.stay s, i.2.2.2.2.stay s⟩
def tE (K : PySem.W.Frag) (E : WX) (u : U) : TE := fun σ H Q => ∃ ρ h M Q3 E3, EAbs K ρ h σ M ∧ Ab K h M H ∧ u ρ h Q3 E3 ∧ Imp K h M H Q3 Q ∧ ImpE K h M H E3 E
def tT (K : PySem.W.Frag) (E : WX) (u : UT) : TT := fun σ H Q => ∃ ρ h M Q3 E3, EAbs K ρ h σ M ∧ Ab K h M H ∧ u ρ h Q3 E3 ∧ ImpB K h M H Q3 Q ∧ ImpE K h M H E3 E
def tA (K : PySem.W.Frag) (E : WX) (u : UA) : TA := fun σ H Q => ∃ ρ h M Q3 E3, EAbs K ρ h σ M ∧ Ab K h M H ∧ u ρ h Q3 E3 ∧ ImpL K h M H Q3 Q ∧ ImpE K h M H E3 E
def tS (K : PySem.W.Frag) (E : WX) (u : US) : TS := fun D' σ H => ∃ ρ h M D3, EAbs K ρ h σ M ∧ Ab K h M H ∧ u D3 ρ h ∧ ImpD K h M H D3 D' E
theorem pe_weak {X : Cx} {e : Expr} {t t' : TE} (p : PE X e t) (h : ∀ σ H Q, t' σ H Q → t σ H Q) : PE X e t' := ⟨fun pins s σ H Q I q => p.run pins s σ H Q I (h σ H Q q)⟩
theorem pt_weak {X : Cx} {e : Expr} {t t' : TT} (p : PT X e t) (h : ∀ σ H Q, t' σ H Q → t σ H Q) : PT X e t' := ⟨fun pins s σ H Q I q => p.run pins s σ H Q I (h σ H Q q)⟩
theorem pw_weak {X : Cx} {e : Expr} {t t' : TT} (p : PW X e t) (h : ∀ σ H Q, t' σ H Q → t σ H Q) : PW X e t' := ⟨fun wh pins s σ H Q I q => p.run wh pins s σ H Q I (h σ H Q q)⟩
theorem pa_weak {X : Cx} {e : List Expr} {t t' : TA} (p : PA X e t) (h : ∀ σ H Q, t' σ H Q → t σ H Q) : PA X e t' := ⟨fun pos pins s σ H Q I q => p.run pos pins s σ H Q I (h σ H Q q)⟩
theorem ps_weak {X : Cx} {e : Stmt} {t t' : TS} (p : PS X e t) (h : ∀ D' σ H, t' D' σ H → t D' σ H) : PS X e t' := ⟨fun pins s σ H Q I q => p.run pins s σ H Q I (h Q σ H q)⟩
theorem pss_weak {X : Cx} {e : List Stmt} {t t' : TS} (p : PSs X e t) (h : ∀ D' σ H, t' D' σ H → t D' σ H) : PSs X e t' := ⟨fun pins s σ H Q I q => p.run pins s σ H Q I (h Q σ H q)⟩
end L3

set_option Elab.async false
set_option linter.all false
set_option maxRecDepth 100000
set_option maxHeartbeats 4000000
namespace L3
open PySem PySem.Spec PyProof.Rows L2
variable {K : PySem.W.Frag}
/-! expressions -/
def uV (i : Nat) : U := fun ρ h Q _ => match ρ[i]? with
  | some (some d) => Q d h
  | _ => False
def uC (d : D) : U := fun _ h Q _ => Q d h
def uO2 (f : D → D → DH → QK → Prop) (a b : U) : U := fun ρ h Q E => a ρ h (fun x h1 => b ρ h1 (fun y h2 => f x y h2 Q) E) E
def uO1 (f : D → DH → QK → Prop) (a : U) : U := fun ρ h Q E => a ρ h (fun x h1 => f x h1 Q) E
def uCB (f : List D → DH → QK → Prop) (a : UA) : U := fun ρ h Q E => a ρ h (fun xs h1 => f xs h1 Q) E
def aN : UA := fun _ h Q _ => Q [] h
def aC (a : U) (r : UA) : UA := fun ρ h Q E => a ρ h (fun x h1 => r ρ h1 (fun xs h2 => Q (x :: xs) h2) E) E
def uTup (a : UA) : U := fun ρ h Q E => a ρ h (fun xs h1 => xs.length ≤ sizeLine ∧ Q (.tup xs) h1) E
/-- a new list: by value; tracked -/
def uLst (a : UA) : U := fun ρ h Q E => a ρ h (fun xs h1 => xs.length ≤ sizeLine ∧ Q (.lst xs) h1) E
def uLsM (a : UA) : U := fun ρ h Q E => a ρ h (fun xs h1 => xs.length ≤ sizeLine ∧ ∀ p, h1 p = none → Q (.ref p) (put h1 p (.lst xs))) E

/-- the layer's operation of a data operation -/
def r2 (K : PySem.W.Frag) (f : D → D → DH → QK → Prop) : R2 := fun v w H Q => ∃ x y h M Q3, Ab K h M H ∧ Rep K h M x v ∧ Rep K h M y w ∧ f x y h Q3 ∧ Imp K h M H Q3 Q
def r1 (K : PySem.W.Frag) (f : D → DH → QK → Prop) : V → Hp → VK → Prop := fun v H Q => ∃ x h M Q3, Ab K h M H ∧ Rep K h M x v ∧ f x h Q3 ∧ Imp K h M H Q3 Q
def rC (K : PySem.W.Frag) (f : List D → DH → QK → Prop) : List V → Hp → VK → Prop := fun vs H Q => ∃ xs h M Q3, Ab K h M H ∧ RepL K h M xs vs ∧ f xs h Q3 ∧ Imp K h M H Q3 Q
section
variable {X : Cx} {E : WX} {a b c e : Expr} {ua ub uc : U} {pos : Pos}
theorem e_v (i : Nat) {x : Str} {pos : Pos} (hN : X.N[i]? = some x := by rfl) (hv : Vis X.env.scope x := by first | exact Or.inl rfl | exact Or.inr (Or.inl rfl) | exact Or.inr (Or.inr rfl)) (hd : (x == ("__debug__" : Str)) = false := by decide)
    (hcd : (x == ("__classdict__" : Str)) = false := by decide) : PE X (.Name x pos) (tE X.K E (uV i)) := pe_weak (pe_var hN hv hd hcd) fun σ H Q h => by
  obtain ⟨ρ, h, M, Q3, E3, ea, ha, q, im, ie⟩ := h
  unfold uV at q
  cases e1 : ρ[i]? with
  | none => rw [e1] at q; exact q.elim
  | some o =>
    cases o with
    | none => rw [e1] at q; exact q.elim
    | some d =>
      rw [e1] at q
      obtain ⟨v, e2, r⟩ := ea.2 i d e1
      exact ⟨v, e2, im d h v M H q ha (Sy.refl h M H) r⟩
theorem tC_of {d : D} {v : V} (r : ∀ h H, Rep X.K h H d v) {σ : L2.St} {H : Hp} {Q : VK} (h : tE X.K E (uC d) σ H Q) : tC v σ H Q := by
  obtain ⟨ρ, h, M, Q3, E3, ea, ha, q, im, ie⟩ := h
  exact im d h v M H q ha (Sy.refl h M H) (r h M)
theorem e_int {n : Int} {k : Nat} : PE X (.Constant (.int n) k pos) (tE X.K E (uC (.int n))) := pe_weak pe_int fun _ _ _ h => tC_of (fun _ _ => by unfold Rep; rfl) h
theorem e_str {x : Str} {k : Nat} : PE X (.Constant (.str x) k pos) (tE X.K E (uC (.str x))) := pe_weak pe_str fun _ _ _ h => tC_of (fun _ _ => by unfold Rep; rfl) h
theorem e_bl {b : Bool} {k : Nat} : PE X (.Constant (.bool b) k pos) (tE X.K E (uC (.bl b))) := pe_weak pe_bl fun _ _ _ h => tC_of (fun _ _ => by unfold Rep; rfl) h
theorem e_non {k : Nat} : PE X (.Constant .none k pos) (tE X.K E (uC .non)) := pe_weak pe_non fun _ _ _ h => tC_of (fun _ _ => by unfold Rep; rfl) h
theorem tOp_of {f : D → D → DH → QK → Prop} {σ : L2.St} {H : Hp} {Q : VK} (h : tE X.K E (uO2 f ua ub) σ H Q) : tOp (r2 X.K f) (tE X.K E ua) (tE X.K E ub) σ H Q := by
  obtain ⟨ρ, h, M, Q3, E3, ea, ha, q, im, ie⟩ := h
  refine ⟨ρ, h, M, _, E3, ea, ha, q, fun x h1 v M1 H1 q1 a1 s1 r1 => ?_, ie⟩
  refine ⟨ρ, h1, M1, _, E3, ea.stay s1.st, a1, q1, fun y h2 w M2 H2 q2 a2 s2 r2 => ?_, ie.stay s1⟩
  exact ⟨x, y, h2, M2, Q3, a2, r1.stay s2.st, r2, q2, im.stay (s1.trans s2)⟩
theorem e_op {op : Operator} {f : D → D → DH → QK → Prop} (ho : OpR X (binaryOp op) (r2 X.K f)) (ha : PE X a (tE X.K E ua)) (hb : PE X b (tE X.K E ub)) : PE X (.BinOp a op b pos) (tE X.K E (uO2 f ua ub)) := pe_weak (pe_op ho ha hb) fun _ _ _ h => tOp_of h
theorem e_cmp {op : CmpOp} {f : D → D → DH → QK → Prop} (ho : OpR X (compareOp op) (r2 X.K f)) (ha : PE X a (tE X.K E ua)) (hb : PE X b (tE X.K E ub)) (hm : behindInMarks op b = false := by first | exact nomark _ | rfl) : PE X (.Compare a [op] [b] pos) (tE X.K E (uO2 f ua ub)) := pe_weak (pe_cmpR ho ha hb hm) fun _ _ _ h => tOp_of h
theorem e_un {op : UnaryOp} {f : D → DH → QK → Prop} (ho : UnR X (unaryOp op) (r1 X.K f)) (ha : PE X a (tE X.K E ua)) : PE X (.UnaryOp op a pos) (tE X.K E (uO1 f ua)) := pe_weak (pe_un ho ha) fun σ H Q h => by
  obtain ⟨ρ, h, M, Q3, E3, ea, ha, q, im, ie⟩ := h
  refine ⟨ρ, h, M, _, E3, ea, ha, q, fun x h1 v M1 H1 q1 a1 s1 r1 => ?_, ie⟩
  exact ⟨x, h1, M1, Q3, a1, r1, q1, im.stay s1⟩
/-- a < b < c -/
def uCh (f g : D → D → DH → QK → Prop) (a b c : U) : U := fun ρ h Q E => a ρ h (fun x h1 => b ρ h1 (fun y h2 => f x y h2 (fun z h3 => match z with
  | .bl true => c ρ h3 (fun w h4 => g y w h4 Q) E
  | .bl false => Q (.bl false) h3
  | _ => False)) E) E
theorem a_nil : PA X [] (tA X.K E aN) := pa_weak pa_nil fun σ H Q h => by
  obtain ⟨ρ, h, M, Q3, E3, ea, ha, q, im, ie⟩ := h
  exact im [] h [] M H q ha (Sy.refl h M H) (by unfold RepL; rfl)
theorem a_cons {es : List Expr} {ur : UA} (ha : PE X a (tE X.K E ua)) (hr : PA X es (tA X.K E ur)) (hs : starEach (a :: es) X.env = (false, eval a X.env) :: starEach es X.env := by rfl) : PA X (a :: es) (tA X.K E (aC ua ur)) := pa_weak (pa_cons ha hr hs) fun σ H Q h => by
  obtain ⟨ρ, h, M, Q3, E3, ea, ha, q, im, ie⟩ := h
  refine ⟨ρ, h, M, _, E3, ea, ha, q, fun x h1 v M1 H1 q1 a1 s1 r1 => ?_, ie⟩
  refine ⟨ρ, h1, M1, _, E3, ea.stay s1.st, a1, q1, fun xs h2 vs M2 H2 q2 a2 s2 r2 => ?_, ie.stay s1⟩
  exact im (x :: xs) h2 (v :: vs) M2 H2 q2 a2 (s1.trans s2) (by unfold RepL; exact ⟨v, vs, rfl, r1.stay s2.st, r2⟩)
theorem RepL.len {h : DH} {H : Hp} : ∀ {ds : List D} {vs : List V}, RepL K h H ds vs → vs.length = ds.length
  | [], vs, r => by unfold RepL at r; rw [r]; rfl
  | d :: ds, vs, r => by
    unfold RepL at r
    obtain ⟨v, t, e, a, b⟩ := r
    rw [e, List.length_cons, List.length_cons, RepL.len b]
theorem e_tup {es : List Expr} {ur : UA} {k : Nat} (h : PA X es (tA X.K E ur)) : PE X (.Tuple es k pos) (tE X.K E (uTup ur)) := pe_weak (pe_tup h) fun σ H Q h => by
  obtain ⟨ρ, h, M, Q3, E3, ea, ha, q, im, ie⟩ := h
  refine ⟨ρ, h, M, _, E3, ea, ha, q, fun xs h1 vs M1 H1 q1 a1 s1 r1 => ?_, ie⟩
  refine ⟨by rw [r1.len]; exact q1.1, fun p hp => ?_⟩
  exact im (.tup xs) h1 (.ref p) _ _ q1.2 (a1.new hp) (s1.trans (sy_new a1 hp)) (by unfold Rep; exact ⟨p, vs, rfl, a1.free hp, upd_same, r1.stay (sy_new a1 hp).st⟩)
theorem e_lst {es : List Expr} {ur : UA} (h : PA X es (tA X.K E ur)) : PE X (.List es pos) (tE X.K E (uLst ur)) := pe_weak (pe_lst h) fun σ H Q h => by
  obtain ⟨ρ, h, M, Q3, E3, ea, ha, q, im, ie⟩ := h
  refine ⟨ρ, h, M, _, E3, ea, ha, q, fun xs h1 vs M1 H1 q1 a1 s1 r1 => ?_, ie⟩
  refine ⟨by rw [r1.len]; exact q1.1, fun p hp => ?_⟩
  exact im (.lst xs) h1 (.ref p) _ _ q1.2 (a1.new hp) (s1.trans (sy_new a1 hp)) (by unfold Rep; exact ⟨p, vs, rfl, a1.free hp, upd_same, r1.stay (sy_new a1 hp).st⟩)
theorem e_lsM {es : List Expr} {ur : UA} (h : PA X es (tA X.K E ur)) : PE X (.List es pos) (tE X.K E (uLsM ur)) := pe_weak (pe_lst h) fun σ H Q h => by
  obtain ⟨ρ, h, M, Q3, E3, ea, ha, q, im, ie⟩ := h
  refine ⟨ρ, h, M, _, E3, ea, ha, q, fun xs h1 vs M1 H1 q1 a1 s1 r1 => ?_, ie⟩
  refine ⟨by rw [r1.len]; exact q1.1, fun p hp => ?_⟩
  exact im (.ref p) _ (.ref p) _ _ (q1.2 p (a1.free hp)) (a1.putN hp ⟨vs, rfl, r1⟩) (s1.trans (sy_put a1 hp)) (by unfold Rep; rfl)
theorem tCB_of {f : List D → DH → QK → Prop} {ur : UA} {σ : L2.St} {H : Hp} {Q : VK} (h : tE X.K E (uCB f ur) σ H Q) : tCB (rC X.K f) (tA X.K E ur) σ H Q := by
  obtain ⟨ρ, h, M, Q3, E3, ea, ha, q, im, ie⟩ := h
  refine ⟨ρ, h, M, _, E3, ea, ha, q, fun xs h1 vs M1 H1 q1 a1 s1 r1 => ?_, ie⟩
  exact ⟨xs, h1, M1, Q3, a1, r1, q1, im.stay s1⟩
/-- f(e, ..), f a built-in function, a built-in type -/
theorem e_cb {x : Str} {p : Pos} {es : List Expr} {f : List D → DH → QK → Prop} {ur : UA} {id : String} (hc : CallR X (.builtin id) (rC X.K f)) (hg : Gl X x) (hm : X.mg x = none) (hv : bootBuiltins x = some (.builtin id)) (ha : PA X (e :: es) (tA X.K E ur)) (hn : x ≠ "__name__" := by decide) (hdb : (x == ("__debug__" : Str)) = false := by decide)
    (he : starEach (e :: es) X.env = (false, eval e X.env) :: starEach es X.env := by rfl) (hpl : (backTo pos (starEach es X.env)).any (·.1) = false := by rfl) : PE X (.Call (.Name x p) (e :: es) [] pos) (tE X.K E (uCB f ur)) := pe_weak (pe_callB hc hg hm hv ha hn hdb he hpl) fun _ _ _ h => tCB_of h
theorem e_ct {x : Str} {p : Pos} {es : List Expr} {f : List D → DH → QK → Prop} {ur : UA} {T : String} (hc : CallR X (.type T) (rC X.K f)) (hg : Gl X x) (hm : X.mg x = none) (hv : bootBuiltins x = some (.type T)) (ha : PA X (e :: es) (tA X.K E ur)) (hn : x ≠ "__name__" := by decide) (hdb : (x == ("__debug__" : Str)) = false := by decide)
    (he : starEach (e :: es) X.env = (false, eval e X.env) :: starEach es X.env := by rfl) (hpl : (backTo pos (starEach es X.env)).any (·.1) = false := by rfl) : PE X (.Call (.Name x p) (e :: es) [] pos) (tE X.K E (uCB f ur)) := pe_weak (pe_callTy hc hg hm hv ha hn hdb he hpl) fun _ _ _ h => tCB_of h

/-! tests, and, or, not -/
/-- truth -/
def drf (p : Addr) : Option DO → D
  | some (.lst ds) => .lst ds
  | _ => .ref p
def deref (h : DH) : D → D
  | .ref p => drf p (h p)
  | d => d
def truD (d : D) (h : DH) (Q : Bool → DH → Prop) : Prop := match deref h d with
  | .bl b => Q b h
  | .non => Q false h
  | .int i => Q (i != 0) h
  | .str x => x.length ≤ sizeLine ∧ Q ((x.length : Int) != 0) h
  | .tup ds => Q (!ds.isEmpty) h
  | .lst ds => Q (!ds.isEmpty) h
  | _ => False
def uTr (a : U) : UT := fun ρ h Q E => a ρ h (fun d h1 => truD d h1 Q) E
def uAnd (a b : UT) : UT := fun ρ h Q E => a ρ h (fun k h1 => match k with | true => b ρ h1 Q E | false => Q false h1) E
def uOr (a b : UT) : UT := fun ρ h Q E => a ρ h (fun k h1 => match k with | true => Q true h1 | false => b ρ h1 Q E) E
def uNot (a : UT) : UT := fun ρ h Q E => a ρ h (fun k h1 => Q (!k) h1) E
def uAndV (a b : U) : U := fun ρ h Q E => a ρ h (fun x h1 => match x with | .bl true => b ρ h1 Q E | .bl false => Q (.bl false) h1 | _ => False) E
def uOrV (a b : U) : U := fun ρ h Q E => a ρ h (fun x h1 => match x with | .bl true => Q (.bl true) h1 | .bl false => b ρ h1 Q E | _ => False) E
def uNotV (a : U) : U := fun ρ h Q E => a ρ h (fun x h1 => match x with | .bl k => Q (.bl (!k)) h1 | _ => False) E
def uIf (t : UT) (a b : U) : U := fun ρ h Q E => t ρ h (fun k h1 => match k with | true => a ρ h1 Q E | false => b ρ h1 Q E) E
theorem Rep.isEmpty {h : DH} {H : Hp} {ds : List D} {vs : List V} (r : RepL K h H ds vs) : vs.isEmpty = ds.isEmpty := by
  cases ds with
  | nil => unfold RepL at r; rw [r]; rfl
  | cons d ds => unfold RepL at r; obtain ⟨v, t, e, _⟩ := r; rw [e]; rfl
/-- a value that is a list: tracked or not -/
theorem Ab.rd {h : DH} {M H : Hp} (x : Ab K h M H) {a : Addr} {o : HO} (r : Rd M a o) : Rd H a o := by
  rcases r with r | ⟨u, r⟩
  · exact .inl (x.sub a _ r)
  · exact .inr ⟨u, x.sub a _ r⟩
theorem Rep.toLst {h : DH} {M H : Hp} (x : Ab K h M H) {d : D} {v : V} {ds : List D} (r : Rep K h M d v) (e : deref h d = .lst ds) : ∃ a vs, v = .ref a ∧ M a = some (.lst vs) ∧ H a = some (.lst vs) ∧ RepL K h M ds vs := by
  cases d with
  | ref p =>
    unfold Rep at r
    have e : drf p (h p) = .lst ds := e
    cases q : h p with
    | none => rw [q] at e; cases e
    | some o =>
      rw [q] at e
      cases o with
      | lst es =>
        cases e
        obtain ⟨u, hu, vs, e2, rl⟩ := x.abs p _ q
        subst e2
        exact ⟨p, vs, r, hu, x.sub p _ hu, rl⟩
      | _ => cases e
  | lst es =>
    cases e
    unfold Rep at r
    obtain ⟨a, vs, e1, _, e2, e3⟩ := r
    exact ⟨a, vs, e1, e2, x.sub _ _ e2, e3⟩
  | _ => cases e
theorem Rep.notLst {h : DH} {H : Hp} {d : D} {v : V} (r : Rep K h H d v) (e : ∀ ds, deref h d ≠ .lst ds) : deref h d = d := by
  cases d with
  | ref p =>
    have e : ∀ ds, drf p (h p) ≠ .lst ds := e
    show drf p (h p) = .ref p
    cases q : h p with
    | none => rfl
    | some o =>
      cases o with
      | lst es => rw [q] at e; exact absurd rfl (e es)
      | _ => rfl
  | _ => rfl
theorem t_val (ha : PE X a (tE X.K E ua)) (he : ∀ whole, isTrue a X.env whole = (do let v ← whole; standAt a.pos; holding [v] (truthy v)) := by intro _; rfl) : PT X a (tT X.K E (uTr ua)) := pt_weak (pt_truth ha he) fun σ H Q h => by
  obtain ⟨ρ, h, M, Q3, E3, ea, ha, q, im, ie⟩ := h
  refine ⟨ρ, h, M, _, E3, ea, ha, q, fun x h1 v M1 H1 q1 a1 s1 r1 => ?_, ie⟩
  have q1 : truD x h1 Q3 := q1
  show ∃ k, TruV X.K v H1 k ∧ Q k H1
  unfold truD at q1
  split at q1
  · rename_i b e
    rw [r1.notLst (by intro ds z; rw [e] at z; cases z)] at e
    subst e
    unfold Rep at r1
    subst r1
    exact ⟨b, rfl, im b h1 M1 H1 q1 a1 s1⟩
  · rename_i e
    rw [r1.notLst (by intro ds z; rw [e] at z; cases z)] at e
    subst e
    unfold Rep at r1
    subst r1
    exact ⟨false, rfl, im _ h1 M1 H1 q1 a1 s1⟩
  · rename_i i e
    rw [r1.notLst (by intro ds z; rw [e] at z; cases z)] at e
    subst e
    unfold Rep at r1
    subst r1
    exact ⟨_, rfl, im _ h1 M1 H1 q1 a1 s1⟩
  · rename_i z e
    rw [r1.notLst (by intro ds z; rw [e] at z; cases z)] at e
    subst e
    unfold Rep at r1
    subst r1
    exact ⟨_, ⟨q1.1, rfl⟩, im _ h1 M1 H1 q1.2 a1 s1⟩
  · rename_i ds e
    rw [r1.notLst (by intro ds z; rw [e] at z; cases z)] at e
    subst e
    unfold Rep at r1
    obtain ⟨p, vs, e1, _, e2, e3⟩ := r1
    subst e1
    exact ⟨!vs.isEmpty, .inr (.inl ⟨vs, SqT.of (a1.sub _ _ e2), rfl⟩), by rw [Rep.isEmpty e3]; exact im _ h1 M1 H1 q1 a1 s1⟩
  · rename_i ds e
    obtain ⟨p, vs, e1, _, e2, e3⟩ := r1.toLst a1 e
    subst e1
    exact ⟨!vs.isEmpty, .inl ⟨vs, SqL.of e2, rfl⟩, by rw [Rep.isEmpty e3]; exact im _ h1 M1 H1 q1 a1 s1⟩
  · exact q1.elim
/-- a test that is a comparison -/
def uTb (a : U) : UT := fun ρ h Q E => a ρ h (fun d h1 => match d with | .bl b => Q b h1 | _ => False) E
theorem tTest_of {t : TE} {u : U} (k : ∀ σ H Q, tE X.K E u σ H Q → t σ H Q) {σ : L2.St} {H : Hp} {Q : Bool → Hp → Prop} (h : tT X.K E (uTb u) σ H Q) : tTest t σ H Q := by
  obtain ⟨ρ, h, M, Q3, E3, ea, ha, q, im, ie⟩ := h
  refine k σ H _ ⟨ρ, h, M, _, E3, ea, ha, q, fun x h1 v M1 H1 q1 a1 s1 r1 => ?_, ie⟩
  cases x with
  | bl b =>
    unfold Rep at r1
    exact ⟨b, r1, im b h1 M1 H1 q1 a1 s1⟩
  | _ => exact q1.elim
theorem t_cmp {op : CmpOp} {f : D → D → DH → QK → Prop} (ho : OpR X (compareOp op) (r2 X.K f)) (ha : PE X a (tE X.K E ua)) (hb : PE X b (tE X.K E ub)) (hm : behindInMarks op b = false := by first | exact nomark _ | rfl) : PT X (.Compare a [op] [b] pos) (tT X.K E (uTb (uO2 f ua ub))) := pt_weak (pt_cmpR ho ha hb hm) fun _ _ _ h => tTest_of (fun _ _ _ z => tOp_of z) h
theorem tChain_of {f g : D → D → DH → QK → Prop} {σ : L2.St} {H : Hp} {Q : VK} (h : tE X.K E (uCh f g ua ub uc) σ H Q) : tChain (r2 X.K f) (r2 X.K g) (tE X.K E ua) (tE X.K E ub) (tE X.K E uc) σ H Q := by
  obtain ⟨ρ, h, M, Q3, E3, ea, ha, q, im, ie⟩ := h
  refine ⟨ρ, h, M, _, E3, ea, ha, q, fun x h1 v M1 H1 q1 a1 s1 r1 => ?_, ie⟩
  refine ⟨ρ, h1, M1, _, E3, ea.stay s1.st, a1, q1, fun y h2 w M2 H2 q2 a2 s2 r2 => ?_, ie.stay s1⟩
  refine ⟨x, y, h2, M2, _, a2, r1.stay s2.st, r2, q2, fun z h3 v3 M3 H3 q3 a3 s3 r3 => ?_⟩
  cases z with
  | bl k =>
    unfold Rep at r3
    refine ⟨k, r3, ?_⟩
    cases k with
    | false => exact im (.bl false) h3 _ M3 H3 q3 a3 ((s1.trans s2).trans s3) (by unfold Rep; rfl)
    | true =>
      refine ⟨ρ, h3, M3, _, E3, ea.stay ((s1.trans s2).trans s3).st, a3, q3, fun z4 h4 v4 M4 H4 q4 a4 s4 r4 => ?_, ie.stay ((s1.trans s2).trans s3)⟩
      exact ⟨y, z4, h4, M4, Q3, a4, (r2.stay s3.st).stay s4.st, r4, q4, im.stay (((s1.trans s2).trans s3).trans s4)⟩
  | _ => exact q3.elim
theorem e_chain {op op' : CmpOp} {f g : D → D → DH → QK → Prop} (ho : OpR X (compareOp op) (r2 X.K f)) (ho' : OpR X (compareOp op') (r2 X.K g)) (ha : PE X a (tE X.K E ua)) (hb : PE X b (tE X.K E ub)) (hc : PE X c (tE X.K E uc))
    (hm : lastMarks [op, op'] [b, c] = false := by with_unfolding_all rfl) : PE X (.Compare a [op, op'] [b, c] pos) (tE X.K E (uCh f g ua ub uc)) := pe_weak (pe_chain ho ho' ha hb hc hm) fun _ _ _ h => tChain_of h
theorem t_chain {op op' : CmpOp} {f g : D → D → DH → QK → Prop} (ho : OpR X (compareOp op) (r2 X.K f)) (ho' : OpR X (compareOp op') (r2 X.K g)) (ha : PE X a (tE X.K E ua)) (hb : PE X b (tE X.K E ub)) (hc : PE X c (tE X.K E uc))
    (hm : lastMarks [op, op'] [b, c] = false := by with_unfolding_all rfl) : PT X (.Compare a [op, op'] [b, c] pos) (tT X.K E (uTb (uCh f g ua ub uc))) := pt_weak (pt_chain ho ho' ha hb hc hm) fun _ _ _ h => tTest_of (fun _ _ _ z => tChain_of z) h
variable {ta tb : UT} {rest : List Expr}
theorem w_and1 (ha : PT X a (tT X.K E ta)) : PW X (.BoolOp .And [a] pos) (tT X.K E ta) := pw_and1 ha
theorem w_or1 (ha : PT X a (tT X.K E ta)) : PW X (.BoolOp .Or [a] pos) (tT X.K E ta) := pw_or1 ha
theorem w_and (ha : PT X a (tT X.K E ta)) (hb : PW X (.BoolOp .And (b :: rest) pos) (tT X.K E tb)) : PW X (.BoolOp .And (a :: b :: rest) pos) (tT X.K E (uAnd ta tb)) := pw_weak (pw_and ha hb) fun σ H Q h => by
  obtain ⟨ρ, h, M, Q3, E3, ea, ha, q, im, ie⟩ := h
  refine ⟨ρ, h, M, _, E3, ea, ha, q, fun k h1 M1 H1 q1 a1 s1 => ?_, ie⟩
  cases k with
  | true => exact iteT ⟨ρ, h1, M1, Q3, E3, ea.stay s1.st, a1, q1, im.stay s1, ie.stay s1⟩
  | false => exact iteF (im false h1 M1 H1 q1 a1 s1)
theorem w_or (ha : PT X a (tT X.K E ta)) (hb : PW X (.BoolOp .Or (b :: rest) pos) (tT X.K E tb)) : PW X (.BoolOp .Or (a :: b :: rest) pos) (tT X.K E (uOr ta tb)) := pw_weak (pw_or ha hb) fun σ H Q h => by
  obtain ⟨ρ, h, M, Q3, E3, ea, ha, q, im, ie⟩ := h
  refine ⟨ρ, h, M, _, E3, ea, ha, q, fun k h1 M1 H1 q1 a1 s1 => ?_, ie⟩
  cases k with
  | false => exact iteF ⟨ρ, h1, M1, Q3, E3, ea.stay s1.st, a1, q1, im.stay s1, ie.stay s1⟩
  | true => exact iteT (im true h1 M1 H1 q1 a1 s1)
theorem t_not (ha : PT X a (tT X.K E ta)) : PT X (.UnaryOp .Not a pos) (tT X.K E (uNot ta)) := pt_weak (pt_not ha) fun σ H Q h => by
  obtain ⟨ρ, h, M, Q3, E3, ea, ha, q, im, ie⟩ := h
  exact ⟨ρ, h, M, _, E3, ea, ha, q, fun k h1 M1 H1 q1 a1 s1 => im _ h1 M1 H1 q1 a1 s1, ie⟩
theorem e_one {op} (ha : PE X a (tE X.K E ua)) : PE X (.BoolOp op [a] pos) (tE X.K E ua) := pe_one ha
theorem e_and (ha : PE X a (tE X.K E ua)) (hb : PE X (.BoolOp .And (b :: rest) pos) (tE X.K E ub)) : PE X (.BoolOp .And (a :: b :: rest) pos) (tE X.K E (uAndV ua ub)) := pe_weak (pe_and ha hb) fun σ H Q h => by
  obtain ⟨ρ, h, M, Q3, E3, ea, ha, q, im, ie⟩ := h
  refine ⟨ρ, h, M, _, E3, ea, ha, q, fun x h1 v M1 H1 q1 a1 s1 r1 => ?_, ie⟩
  cases x with
  | bl k =>
    unfold Rep at r1
    refine ⟨k, r1, ?_⟩
    cases k with
    | true => exact iteT ⟨ρ, h1, M1, Q3, E3, ea.stay s1.st, a1, q1, im.stay s1, ie.stay s1⟩
    | false => exact iteF (im (.bl false) h1 _ M1 H1 q1 a1 s1 (by unfold Rep; rfl))
  | _ => exact q1.elim
theorem e_or (ha : PE X a (tE X.K E ua)) (hb : PE X (.BoolOp .Or (b :: rest) pos) (tE X.K E ub)) : PE X (.BoolOp .Or (a :: b :: rest) pos) (tE X.K E (uOrV ua ub)) := pe_weak (pe_or ha hb) fun σ H Q h => by
  obtain ⟨ρ, h, M, Q3, E3, ea, ha, q, im, ie⟩ := h
  refine ⟨ρ, h, M, _, E3, ea, ha, q, fun x h1 v M1 H1 q1 a1 s1 r1 => ?_, ie⟩
  cases x with
  | bl k =>
    unfold Rep at r1
    refine ⟨k, r1, ?_⟩
    cases k with
    | false => exact iteF ⟨ρ, h1, M1, Q3, E3, ea.stay s1.st, a1, q1, im.stay s1, ie.stay s1⟩
    | true => exact iteT (im (.bl true) h1 _ M1 H1 q1 a1 s1 (by unfold Rep; rfl))
  | _ => exact q1.elim
theorem e_not (ha : PE X a (tE X.K E ua)) : PE X (.UnaryOp .Not a pos) (tE X.K E (uNotV ua)) := pe_weak (pe_not ha) fun σ H Q h => by
  obtain ⟨ρ, h, M, Q3, E3, ea, ha, q, im, ie⟩ := h
  refine ⟨ρ, h, M, _, E3, ea, ha, q, fun x h1 v M1 H1 q1 a1 s1 r1 => ?_, ie⟩
  cases x with
  | bl k =>
    unfold Rep at r1
    exact ⟨k, r1, im (.bl (!k)) h1 _ M1 H1 q1 a1 s1 (by unfold Rep; rfl)⟩
  | _ => exact q1.elim
theorem e_if (hc : PT X c (tT X.K E ta)) (ha : PE X a (tE X.K E ua)) (hb : PE X b (tE X.K E ub)) : PE X (.IfExp c a b pos) (tE X.K E (uIf ta ua ub)) := pe_weak (pe_ifExp hc ha hb) fun σ H Q h => by
  obtain ⟨ρ, h, M, Q3, E3, ea, ha, q, im, ie⟩ := h
  refine ⟨ρ, h, M, _, E3, ea, ha, q, fun k h1 M1 H1 q1 a1 s1 => ?_, ie⟩
  cases k with
  | true => exact iteT ⟨ρ, h1, M1, Q3, E3, ea.stay s1.st, a1, q1, im.stay s1, ie.stay s1⟩
  | false => exact iteF ⟨ρ, h1, M1, Q3, E3, ea.stay s1.st, a1, q1, im.stay s1, ie.stay s1⟩
end
end L3

set_option Elab.async false
set_option linter.all false
set_option maxRecDepth 100000
set_option maxHeartbeats 4000000
namespace L3
open PySem PySem.Spec PyProof.Rows L2
variable {K : PySem.W.Frag}
/-! statements -/
def sNx : US := fun D ρ h => D.nx ρ h
def sSq (s t : US) : US := fun D ρ h => s { D with nx := t D } ρ h
def sBk : US := fun D ρ h => D.bk ρ h
def sCt : US := fun D ρ h => D.ct ρ h
def sRt (u : U) : US := fun D ρ h => u ρ h D.rt D.ex
def sRn : US := fun D _ h => D.rt .non h
def sEx (u : U) : US := fun D ρ h => u ρ h (fun _ h1 => D.nx ρ h1) D.ex
def sIf (t : UT) (a b : US) : US := fun D ρ h => t ρ h (fun k h1 => match k with | true => a D ρ h1 | false => b D ρ h1) D.ex
section
variable {X : Cx} {E : WX} {st : Stmt} {rest : List Stmt} {e c : Expr} {u : U} {t : UT} {a b : US} {pos : Pos}
theorem ss_nil : PSs X [] (tS X.K E sNx) := pss_weak pss_nil fun D' σ H h => by
  obtain ⟨ρ, h, M, D3, ea, ab, q, im⟩ := h
  exact im.1 ρ h σ M H q ea ab (Sy.refl h M H)
theorem ss_cons (h1 : PS X st (tS X.K E a)) (h2 : PSs X rest (tS X.K E b)) : PSs X (st :: rest) (tS X.K E (sSq a b)) := pss_weak (pss_cons h1 h2) fun D' σ H h => by
  obtain ⟨ρ, h, M, D3, ea, ab, q, im⟩ := h
  exact ⟨ρ, h, M, _, ea, ab, q, fun ρ1 h1 σ1 M1 H1 q1 e1 a1 s1 => ⟨ρ1, h1, M1, D3, e1, a1, q1, im.stay s1⟩, im.2⟩
theorem ss_one (h1 : PS X st (tS X.K E a)) : PSs X [st] (tS X.K E a) := pss_one h1
theorem s_pass : PS X (.Pass pos) (tS X.K E sNx) := ps_weak ps_pass fun D' σ H h => by
  obtain ⟨ρ, h, M, D3, ea, ab, q, im⟩ := h
  exact im.1 ρ h σ M H q ea ab (Sy.refl h M H)
theorem s_break : PS X (.Break pos) (tS X.K E sBk) := ps_weak ps_break fun D' σ H h => by
  obtain ⟨ρ, h, M, D3, ea, ab, q, im⟩ := h
  exact im.2.2.1 ρ h σ M H q ea ab (Sy.refl h M H)
theorem s_cont : PS X (.Continue pos) (tS X.K E sCt) := ps_weak ps_continue fun D' σ H h => by
  obtain ⟨ρ, h, M, D3, ea, ab, q, im⟩ := h
  exact im.2.2.2.1 ρ h σ M H q ea ab (Sy.refl h M H)
theorem s_ret (he : PE X e (tE X.K E u)) : PS X (.Return (some e) pos) (tS X.K E (sRt u)) := ps_weak (ps_ret he) fun D' σ H h => by
  obtain ⟨ρ, h, M, D3, ea, ab, q, im⟩ := h
  exact ⟨ρ, h, M, _, _, ea, ab, q, im.2.1, im.2.2.2.2⟩
theorem s_retN : PS X (.Return none pos) (tS X.K E sRn) := ps_weak ps_retN fun D' σ H h => by
  obtain ⟨ρ, h, M, D3, ea, ab, q, im⟩ := h
  exact im.2.1 .non h .non M H q ab (Sy.refl h M H) (by unfold Rep; rfl)
theorem s_expr (he : PE X e (tE X.K E u)) (hs : swapsWith e none pos.line X.env = pure false := by rfl) : PS X (.Expr e pos) (tS X.K E (sEx u)) := ps_weak (ps_expr he hs) fun D' σ H h => by
  obtain ⟨ρ, h, M, D3, ea, ab, q, im⟩ := h
  exact ⟨ρ, h, M, _, _, ea, ab, q, fun d h1 v M1 H1 q1 a1 s1 r1 => im.1 ρ h1 σ M1 H1 q1 (ea.stay s1.st) a1 s1, im.2.2.2.2⟩
theorem s_if {sa sb : List Stmt} (hc : PT X c (tT X.K E t)) (ha : PSs X sa (tS X.K E a)) (hb : PSs X sb (tS X.K E b)) : PS X (.If c sa sb pos) (tS X.K E (sIf t a b)) := ps_weak (ps_if hc ha hb) fun D' σ H h => by
  obtain ⟨ρ, h, M, D3, ea, ab, q, im⟩ := h
  refine ⟨ρ, h, M, _, _, ea, ab, q, fun k h1 M1 H1 q1 a1 s1 => ?_, im.2.2.2.2⟩
  cases k with
  | true => exact iteT ⟨ρ, h1, M1, D3, ea.stay s1.st, a1, q1, im.stay s1⟩
  | false => exact iteF ⟨ρ, h1, M1, D3, ea.stay s1.st, a1, q1, im.stay s1⟩
end

/-! targets; vs: the slots that may change -/
abbrev UG := D → DSt → DH → (DSt → DH → Prop) → Prop
abbrev UGs := List D → DSt → DH → (DSt → DH → Prop) → Prop
def OnlyAt (vs : List Nat) (σ σ' : L2.St) : Prop := σ'.length = σ.length ∧ ∀ j, j ∉ vs → σ'[j]? = σ[j]?
theorem OnlyAt.refl (vs : List Nat) (σ : L2.St) : OnlyAt vs σ σ := ⟨rfl, fun _ _ => rfl⟩
theorem OnlyAt.trans {vs : List Nat} {σ σ1 σ2 : L2.St} (a : OnlyAt vs σ σ1) (b : OnlyAt vs σ1 σ2) : OnlyAt vs σ σ2 := ⟨b.1.trans a.1, fun j hj => (b.2 j hj).trans (a.2 j hj)⟩
def ImpG (K : PySem.W.Frag) (vs : List Nat) (h : DH) (M H : Hp) (σ : L2.St) (N3 : DSt → DH → Prop) (N : L2.St → Hp → Prop) : Prop := ∀ ρ h' σ' M' H', N3 ρ h' → EAbs K ρ h' σ' M' → Ab K h' M' H' → Sy h M H h' M' H' → OnlyAt vs σ σ' → N σ' H'
def tG (K : PySem.W.Frag) (vs : List Nat) (g : UG) : TG := fun v σ H Q => ∃ d ρ h M Q3, Rep K h M d v ∧ EAbs K ρ h σ M ∧ Ab K h M H ∧ g d ρ h Q3 ∧ ImpG K vs h M H σ Q3 Q
def tGs (K : PySem.W.Frag) (vs : List Nat) (g : UGs) : TGs := fun v σ H Q => ∃ d ρ h M Q3, RepL K h M d v ∧ EAbs K ρ h σ M ∧ Ab K h M H ∧ g d ρ h Q3 ∧ ImpG K vs h M H σ Q3 Q
theorem pg_weak {X : Cx} {e : Expr} {t t' : TG} (p : PG X e t) (h : ∀ v σ H Q, t' v σ H Q → t v σ H Q) : PG X e t' := ⟨fun pins s σ H v u Q I r q => p.run pins s σ H v u Q I r (h v σ H Q q)⟩
theorem pgs_weak {X : Cx} {e : List Expr} {t t' : TGs} (p : PGs X e t) (h : ∀ v σ H Q, t' v σ H Q → t v σ H Q) : PGs X e t' := ⟨fun pins s σ H v u Q I r q => p.run pins s σ H v u Q I r (h v σ H Q q)⟩
def gV (i : Nat) : UG := fun d ρ h Q => Q (ρ.set i (some d)) h
def gN : UGs := fun ds ρ h Q => match ds with | [] => Q ρ h | _ => False
def gC (g : UG) (r : UGs) : UGs := fun ds ρ h Q => match ds with | d :: ds => g d ρ h (fun ρ1 h1 => r ds ρ1 h1 Q) | [] => False
def gT (n : Nat) (g : UGs) : UG := fun d ρ h Q => match d with | .tup ds => ds.length = n ∧ g ds ρ h Q | _ => False
section
variable {X : Cx} {E : WX} {pos : Pos} {vs : List Nat}
theorem only_set {σ : L2.St} {i : Nat} {v : Option V} (hi : i ∈ vs) : OnlyAt vs σ (σ.set i v) := ⟨by simp, fun j hj => by
  rw [List.getElem?_set_ne]
  intro e; subst e; exact hj hi⟩
theorem g_v {i : Nat} {x : Str} (hN : X.N.Nodup) (hi : X.N[i]? = some x) (hx : Loc X.env.scope x) (hv : i ∈ vs := by decide) (hf : X.fn x = true ∨ X.env.scope.names.lookup x = some .local := by first | exact .inl rfl | exact .inr rfl | assumption) : PG X (.Name x pos) (tG X.K vs (gV i)) := pg_weak (pg_name hN hi hx hf) fun v σ H Q h => by
  obtain ⟨d, ρ, h, M, Q3, r, ea, ab, q, im⟩ := h
  exact im _ h _ M H q (ea.set r i) ab (Sy.refl h M H) (only_set hv)
theorem gs_nil : PGs X [] (tGs X.K vs gN) := pgs_weak pgs_nil fun v σ H Q h => by
  obtain ⟨d, ρ, h, M, Q3, r, ea, ab, q, im⟩ := h
  cases d with
  | nil =>
    unfold RepL at r
    exact ⟨r, im ρ h σ M H q ea ab (Sy.refl h M H) (OnlyAt.refl vs σ)⟩
  | cons _ _ => exact q.elim
theorem gs_cons {e : Expr} {es : List Expr} {g : UG} {r : UGs} (h1 : PG X e (tG X.K vs g)) (h2 : PGs X es (tGs X.K vs r)) (hs : (assignEach (e :: es) X.env).map (·.2) = assign e X.env :: (assignEach es X.env).map (·.2) := by rfl) : PGs X (e :: es) (tGs X.K vs (gC g r)) := pgs_weak (pgs_cons h1 h2 hs) fun v σ H Q h => by
  obtain ⟨d, ρ, h, M, Q3, r, ea, ab, q, im⟩ := h
  cases d with
  | nil => exact q.elim
  | cons d ds =>
    unfold RepL at r
    obtain ⟨v, vr, e1, r1, r2⟩ := r
    refine ⟨v, vr, e1, d, ρ, h, M, _, r1, ea, ab, q, fun ρ1 h1 σ1 M1 H1 q1 e1 a1 s1 o1 => ?_⟩
    exact ⟨ds, ρ1, h1, M1, Q3, r2.stay s1.st, e1, a1, q1, fun ρ2 h2 σ2 M2 H2 q2 e2 a2 s2 o2 => im ρ2 h2 σ2 M2 H2 q2 e2 a2 (s1.trans s2) (o1.trans o2)⟩
theorem g_t {es : List Expr} {k : Nat} {g : UGs} {n : Nat} (hc : X.calm = true) (h : PGs X es (tGs X.K vs g)) (hn : (assignEach es X.env).length = n := by rfl) (hst : (assignEach es X.env).findIdx? (·.1) = none := by rfl) : PG X (.Tuple es k pos) (tG X.K vs (gT n g)) := pg_weak (pg_tup hc h hn hst) fun v σ H Q h => by
  obtain ⟨d, ρ, h, M, Q3, r, ea, ab, q, im⟩ := h
  cases d with
  | tup ds =>
    unfold Rep at r
    obtain ⟨a, vs', e1, n1, e2, rl⟩ := r
    exact ⟨a, vs', e1, SqT.of (ab.sub _ _ e2), by rw [rl.len]; exact q.1, ds, ρ, h, M, Q3, rl, ea, ab, q.2, im⟩
  | _ => exact q.elim
/-- target = value -/
def sAs (u : U) (g : UG) : US := fun D ρ h => u ρ h (fun d h1 => g d ρ h1 D.nx) D.ex
theorem tAsg_of {u : U} {g : UG} {D' : Ends} {σ : L2.St} {H : Hp} (h : tS X.K E (sAs u g) D' σ H) : tAsg (tE X.K E u) (tG X.K vs g) D' σ H := by
  obtain ⟨ρ, h, M, D3, ea, ab, q, im⟩ := h
  refine ⟨ρ, h, M, _, _, ea, ab, q, fun d h1 v M1 H1 q1 a1 s1 r1 => ?_, im.2.2.2.2⟩
  exact ⟨d, ρ, h1, M1, _, r1, ea.stay s1.st, a1, q1, fun ρ2 h2 σ2 M2 H2 q2 e2 a2 s2 _ => im.1 ρ2 h2 σ2 M2 H2 q2 e2 a2 (s1.trans s2)⟩
theorem s_asg {tg e : Expr} {u : U} {g : UG} (he : PE X e (tE X.K E u)) (hg : PG X tg (tG X.K vs g)) (hs : swapsWithSole [tg] e pos.line X.env = pure false := by rfl) (hw : swappedStores [tg] e X.env = pure none := by rfl)
    (h1 : (assignEach [tg] X.env).map (·.2) = [assign tg X.env] := by rfl) : PS X (.Assign [tg] e pos) (tS X.K E (sAs u g)) := ps_weak (ps_asg he hg hs hw h1) fun _ _ _ h => tAsg_of h
theorem tAsgV_of {u : U} {i : Nat} {D' : Ends} {σ : L2.St} {H : Hp} (h : tS X.K E (sAs u (gV i)) D' σ H) : tAsg (tE X.K E u) (gName i) D' σ H := by
  obtain ⟨ρ, h, M, D3, ea, ab, q, im⟩ := h
  refine ⟨ρ, h, M, _, _, ea, ab, q, fun d h1 v M1 H1 q1 a1 s1 r1 => ?_, im.2.2.2.2⟩
  exact im.1 _ h1 _ M1 H1 q1 ((ea.stay s1.st).set r1 i) a1 s1
theorem s_set {i : Nat} {x : Str} {e : Expr} {u : U} {pos' : Pos} (hN : X.N.Nodup) (hi : X.N[i]? = some x) (hx : Loc X.env.scope x) (he : PE X e (tE X.K E u)) (hs : swapsWith e (some (.Name x pos')) pos.line X.env = pure false := by rfl) (hf : X.fn x = true ∨ X.env.scope.names.lookup x = some .local := by first | exact .inl rfl | exact .inr rfl | assumption) :
    PS X (.Assign [.Name x pos'] e pos) (tS X.K E (sAs u (gV i))) := ps_weak (ps_set hN hi hx he hs hf) fun _ _ _ h => tAsgV_of h
/-- a, b = x, y (two local names) -/
def sPr (i j : Nat) (a : UA) : US := fun D ρ h => a ρ h (fun ds h1 => match ds with | [x, y] => D.nx ((ρ.set i (some x)).set j (some y)) h1 | _ => False) D.ex
theorem s_par {i j : Nat} {x y : Str} {a b : Expr} {ua : UA} {px py pt : Pos} {kt k2 pt2} (hc : X.calm = true) (hN : X.N.Nodup) (hi : X.N[i]? = some x) (hj : X.N[j]? = some y) (hij : i ≠ j)
    (hx : X.env.scope.names.lookup x = some .local) (hy : X.env.scope.names.lookup y = some .local) (ha : PA X [a, b] (tA X.K E ua))
    (hw : swappedStores [.Tuple [.Name x px, .Name y py] kt pt] (.Tuple [a, b] k2 pt2) X.env = pure (some [x, y]))
    (hs : swapsWithSole [.Tuple [.Name x px, .Name y py] kt pt] (.Tuple [a, b] k2 pt2) pos.line X.env = pure false := by rfl) :
    PS X (.Assign [.Tuple [.Name x px, .Name y py] kt pt] (.Tuple [a, b] k2 pt2) pos) (tS X.K E (sPr i j ua)) := ps_weak (ps_par hc hN hi hj hij hx hy ha hw hs) fun D' σ H h => by
  obtain ⟨ρ, h, M, D3, ea, ab, q, im⟩ := h
  refine ⟨ρ, h, M, _, _, ea, ab, q, fun ds h1 vs M1 H1 q1 a1 s1 r1 => ?_, im.2.2.2.2⟩
  cases ds with
  | nil => exact q1.elim
  | cons d1 ds =>
    cases ds with
    | nil => exact q1.elim
    | cons d2 ds =>
      cases ds with
      | nil =>
        unfold RepL at r1
        obtain ⟨v1, r, e1, ra, rb⟩ := r1
        unfold RepL at rb
        obtain ⟨v2, r', e2, rc, rd⟩ := rb
        unfold RepL at rd
        subst rd; subst e2
        exact ⟨v1, v2, e1, im.1 _ h1 _ M1 H1 q1 (((ea.stay s1.st).set ra i).set rc j) a1 s1⟩
      | cons _ _ => exact q1.elim
/-- name op= e -/
def sAu (i : Nat) (u : U) (f : D → D → DH → QK → Prop) : US := fun D ρ h => match ρ[i]? with
  | some (some x) => u ρ h (fun y h1 => f x y h1 (fun z h2 => D.nx (ρ.set i (some z)) h2)) D.ex
  | _ => False
theorem s_aug {i : Nat} {x : Str} {e : Expr} {u : U} {op : Operator} {f : D → D → DH → QK → Prop} {pos' : Pos} (hN : X.N.Nodup) (hi : X.N[i]? = some x) (hx : Loc X.env.scope x) (he : PE X e (tE X.K E u)) (ho : OpR X (inplaceOp op) (r2 X.K f)) (hf : X.fn x = true ∨ X.env.scope.names.lookup x = some .local := by first | exact .inl rfl | exact .inr rfl | assumption) :
    PS X (.AugAssign (.Name x pos') op e pos) (tS X.K E (sAu i u f)) := ps_weak (ps_aug (ti := r2 X.K f) hN hi hx he ho hf) fun D' σ H h => by
  obtain ⟨ρ, h, M, D3, ea, ab, q, im⟩ := h
  unfold sAu at q
  cases e1 : ρ[i]? with
  | none => rw [e1] at q; exact q.elim
  | some o =>
    cases o with
    | none => rw [e1] at q; exact q.elim
    | some d =>
      rw [e1] at q
      obtain ⟨v, e2, r⟩ := ea.2 i d e1
      refine ⟨v, e2, ρ, h, M, _, _, ea, ab, q, fun y h1 w M1 H1 q1 a1 s1 r1 => ?_, im.2.2.2.2⟩
      exact ⟨d, y, h1, M1, _, a1, r.stay s1.st, r1, q1, fun z h2 v2 M2 H2 q2 a2 s2 r2 => im.1 _ h2 _ M2 H2 q2 ((ea.stay (s1.trans s2).st).set r2 i) a2 (s1.trans s2)⟩
end

/-! while -/
def whl (t : UT) (b : US) (D : DEnds) : Nat → DSt → DH → Prop
  | 0, _, _ => False
  | n + 1, ρ, h => t ρ h (fun k h1 => match k with
    | true => b { D with nx := whl t b D n, ct := whl t b D n, bk := D.nx } ρ h1
    | false => D.nx ρ h1) D.ex
def sWh (t : UT) (b : US) : US := fun D ρ h => ∃ n, whl t b D n ρ h
theorem s_while {X : Cx} {E : WX} {c : Expr} {body : List Stmt} {t : UT} {b : US} {pos : Pos} (hp : PassesOwn (model X.prog X.w) X.A X.env X.xe) (hc : PT X c (tT X.K E t)) (hb : PSs X body (tS X.K E b)) : PS X (.While c body [] pos) (tS X.K E (sWh t b)) := ps_weak (ps_while hp hc hb) fun D' σ H h => by
  obtain ⟨ρ0, h0, M0, D3, ea0, ab0, ⟨n, q0⟩, im⟩ := h
  refine ⟨fun m σ H => ∃ ρ h M, EAbs X.K ρ h σ M ∧ Ab X.K h M H ∧ Sy h0 M0 _ h M H ∧ whl t b D3 m ρ h, ⟨n, ρ0, h0, M0, ea0, ab0, Sy.refl _ _ _, q0⟩, ?_⟩
  rintro m σ1 H1 ⟨ρ, h, M, ea, ab, sy, q⟩
  cases m with
  | zero => exact q.elim
  | succ m =>
    refine ⟨ρ, h, M, _, _, ea, ab, q, fun k h1 M1 H1 q1 a1 s1 => ?_, im.2.2.2.2.stay sy⟩
    cases k with
    | false => exact iteF (im.1 ρ h1 σ1 M1 H1 q1 (ea.stay s1.st) a1 (sy.trans s1))
    | true =>
      refine iteT ⟨fun σ' H' => ∃ ρ h M, EAbs X.K ρ h σ' M ∧ Ab X.K h M H' ∧ Sy h0 M0 _ h M H' ∧ whl t b D3 m ρ h, fun σ' H' z => ⟨m, Nat.lt_succ_self m, z⟩, ρ, h1, M1, _, ea.stay s1.st, a1, q1, ?_⟩
      exact ⟨fun ρ2 h2 σ2 M2 H2 q2 e2 a2 s2 => ⟨ρ2, h2, M2, e2, a2, (sy.trans s1).trans s2, q2⟩, im.2.1.stay (sy.trans s1), im.1.stay (sy.trans s1), fun ρ2 h2 σ2 M2 H2 q2 e2 a2 s2 => ⟨ρ2, h2, M2, e2, a2, (sy.trans s1).trans s2, q2⟩, im.2.2.2.2.stay (sy.trans s1)⟩

/-! what is walked -/
/-- the items; ok: what must stay of the small heap -/
abbrev UI := DSt → DH → (List D → (DH → Prop) → DH → Prop) → EK → Prop
structure Wk (K : PySem.W.Frag) (J : It) (items : List D) (ok : DH → Prop) (h0 : DH) (M0 H0 : Hp) : Prop where
  go : ∀ (i : Nat) (d : D) h M H, Sy h0 M0 H0 h M H → Ab K h M H → ok h → items[i]? = some d → J.go i H ∧ ∀ x H', J.yld i H x H' → ∃ M', Ab K h M' H' ∧ Sy h M H h M' H' ∧ Rep K h M' d x
  stop : ∀ h M H, Sy h0 M0 H0 h M H → Ab K h M H → ok h → J.stop items.length H
def tI (K : PySem.W.Frag) (E : WX) (ui : UI) : TI := fun σ H R => ∃ ρ h M R3 E3, EAbs K ρ h σ M ∧ Ab K h M H ∧ ui ρ h R3 E3 ∧ (∀ items ok h' J M' H', R3 items ok h' → Ab K h' M' H' → Sy h M H h' M' H' → Wk K J items ok h' M' H' → R J H') ∧ ImpE K h M H E3 E
theorem pi_weak {X : Cx} {tg e : Expr} {t t' : TI} (p : PI X tg e t) (h : ∀ σ H R, t' σ H R → t σ H R) : PI X tg e t' := ⟨fun pins s σ H R I q => p.run pins s σ H R I (h σ H R q)⟩
def lp (g : UG) (b : US) (ok : DH → Prop) (D : DEnds) : List L3.D → DSt → DH → Prop
  | [], ρ, h => ok h ∧ D.nx ρ h
  | d :: ds, ρ, h => ok h ∧ g d ρ h (fun ρ' h' => b { D with nx := lp g b ok D ds, ct := lp g b ok D ds, bk := D.nx } ρ' h')
def sFr (ui : UI) (g : UG) (b : US) : US := fun D ρ h => ui ρ h (fun items ok h1 => lp g b ok D items ρ h1) D.ex
theorem s_for {X : Cx} {E : WX} {vs : List Nat} {tg iter : Expr} {body : List Stmt} {ui : UI} {g : UG} {b : US} {pos : Pos} (hp : PassesOwn (model X.prog X.w) X.A X.env X.xe) (hc : X.calm = true) (hi : PI X tg iter (tI X.K E ui)) (hg : PG X tg (tG X.K vs g)) (hb : PSs X body (tS X.K E b))
    (hs : ∀ x, foldedSetIterable iter X.env x = pure x := by intro _; rfl) : PS X (.For tg iter body [] pos) (tS X.K E (sFr ui g b)) := ps_weak (ps_for hp hc hi hg hb hs) fun D' σ H h => by
  obtain ⟨ρ0, h0, M0, D3, ea0, ab0, q0, im⟩ := h
  refine ⟨ρ0, h0, M0, _, _, ea0, ab0, q0, fun items ok h1 J M1 H1 q1 a1 s1 w => ?_, im.2.2.2.2⟩
  refine ⟨fun i m σ H => ∃ ρ h M, i + m = items.length ∧ EAbs X.K ρ h σ M ∧ Ab X.K h M H ∧ Sy h1 M1 H1 h M H ∧ lp g b ok D3 (items.drop i) ρ h, ⟨items.length, ρ0, h1, M1, by omega, ea0.stay s1.st, a1, Sy.refl _ _ _, q1⟩, ?_⟩
  rintro i m σ2 H2 ⟨ρ, h, M, em, ea, ab, sy, q⟩
  by_cases hlt : i < items.length
  · rw [List.drop_eq_getElem_cons hlt] at q
    obtain ⟨hok, q⟩ := q
    obtain ⟨go, yl⟩ := w.go i items[i] h M H2 sy ab hok (List.getElem?_eq_getElem hlt)
    refine .inr ⟨go, fun σ' H' => ∃ ρ h M, EAbs X.K ρ h σ' M ∧ Ab X.K h M H' ∧ Sy h1 M1 H1 h M H' ∧ lp g b ok D3 (items.drop (i + 1)) ρ h, fun σ' H' ⟨ρ', h', M', z1, z2, z3, z4⟩ => ⟨m - 1, by omega, ρ', h', M', by omega, z1, z2, z3, z4⟩, fun x H' y => ?_⟩
    obtain ⟨M', a', s', r'⟩ := yl x H' y
    refine ⟨items[i], ρ, h, M', _, r', ea.stay s'.st, a', q, fun ρ3 h3 σ3 M3 H3 q3 e3 a3 s3 _ => ?_⟩
    have sy3 := (sy.trans s').trans s3
    have imx := im.stay (s1.trans sy3)
    exact ⟨ρ3, h3, M3, _, e3, a3, q3, fun ρ4 h4 σ4 M4 H4 q4 e4 a4 s4 => ⟨ρ4, h4, M4, e4, a4, sy3.trans s4, q4⟩, imx.2.1, imx.1, fun ρ4 h4 σ4 M4 H4 q4 e4 a4 s4 => ⟨ρ4, h4, M4, e4, a4, sy3.trans s4, q4⟩, imx.2.2.2.2⟩
  · have e : i = items.length := by omega
    subst e
    rw [List.drop_length] at q
    exact .inl ⟨w.stop h M H2 sy ab q.1, im.1 ρ h σ2 M H2 q.2 ea ab (s1.trans sy)⟩
end L3

set_option Elab.async false
set_option linter.all false
set_option maxRecDepth 100000
set_option maxHeartbeats 4000000
namespace L3
open PySem PySem.Spec PyProof.Rows L2
variable {K : PySem.W.Frag}
/-! new lists: by value, or tracked -/
def ImpF (K : PySem.W.Frag) (h : DH) (M H : Hp) (Q3 : List D → DH → Prop) (Q : VK) : Prop := ∀ ds h' p vs M' H', Q3 ds h' → Ab K h' M' H' → Sy h M H h' M' H' → H p = none → M' p = none → H' p = some (.lst vs) → RepL K h' M' ds vs → Q (.ref p) H'
def tF (K : PySem.W.Frag) (E : WX) (u : UA) : TE := fun σ H Q => ∃ ρ h M Q3 E3, EAbs K ρ h σ M ∧ Ab K h M H ∧ u ρ h Q3 E3 ∧ ImpF K h M H Q3 Q ∧ ImpE K h M H E3 E
def uVal (u : UA) : U := fun ρ h Q E => u ρ h (fun ds h' => Q (.lst ds) h') E
def uTrk (u : UA) : U := fun ρ h Q E => u ρ h (fun ds h' => ∀ p, h' p = none → Q (.ref p) (put h' p (.lst ds))) E
section
variable {h h' : DH} {M M' H H' : Hp} {p : Addr} {o : HO} {u : DO}
/-- a hidden new object is shown -/
theorem Ab.show_ (a : Ab K h' M' H') (e : H' p = some o) (n : M' p = none) : Ab K h' (upd M' p o) H' := ⟨fun x w q => by
  obtain ⟨z, hz, r⟩ := a.abs x w q
  have st : Stay h' M' h' (upd M' p o) := fun y v n1 q1 => ⟨by rw [upd_ne (ne_of_none q1 n)]; exact q1, n1⟩
  exact ⟨z, by rw [upd_ne (ne_of_none hz n)]; exact hz, r.stay st⟩, fun x v q => by
  by_cases hx : x = p
  · subst hx; rw [upd_same] at q; rw [← q]; exact e
  · rw [upd_ne hx] at q; exact a.sub x v q⟩
theorem Sy.show_ (s : Sy h M H h' M' H') (a0 : Ab K h M H) (e : H p = none) (n : M' p = none) : Sy h M H h' (upd M' p o) H' := ⟨fun x v n1 q1 => by
  obtain ⟨z1, z2⟩ := s.st x v n1 q1
  exact ⟨by rw [upd_ne (ne_of_none z1 n)]; exact z1, z2⟩, fun x v n1 q1 => by
  obtain ⟨z1, z2⟩ := s.hid x v n1 q1
  exact ⟨z1, by rw [upd_ne (ne_of_none q1 e)]; exact z2⟩, s.dom⟩
theorem Ab.showPut (a : Ab K h' M' H') (e : H' p = some o) (n : M' p = none) (r : RepO K h' M' u o) : Ab K (put h' p u) (upd M' p o) H' := by
  have hp : h' p = none := a.abs.free n
  have st : Stay h' M' (put h' p u) (upd M' p o) := fun y v n1 q1 => ⟨by rw [upd_ne (ne_of_none q1 n)]; exact q1, by rw [put_ne (ne_of_none q1 n)]; exact n1⟩
  refine ⟨fun x w q => ?_, fun x v q => ?_⟩
  · by_cases hx : x = p
    · subst hx; rw [put_same] at q; cases q
      exact ⟨o, upd_same, r.stay st⟩
    · rw [put_ne hx] at q
      obtain ⟨z, hz, rz⟩ := a.abs x w q
      exact ⟨z, by rw [upd_ne hx]; exact hz, rz.stay st⟩
  · by_cases hx : x = p
    · subst hx; rw [upd_same] at q; rw [← q]; exact e
    · rw [upd_ne hx] at q; exact a.sub x v q
theorem Sy.showPut (s : Sy h M H h' M' H') (a0 : Ab K h M H) (e : H p = none) (n : M' p = none) : Sy h M H (put h' p u) (upd M' p o) H' := ⟨fun x v n1 q1 => by
  obtain ⟨z1, z2⟩ := s.st x v n1 q1
  exact ⟨by rw [upd_ne (ne_of_none z1 n)]; exact z1, by rw [put_ne (ne_of_none z1 n)]; exact z2⟩, fun x v n1 q1 => by
  obtain ⟨z1, z2⟩ := s.hid x v n1 q1
  exact ⟨z1, by rw [upd_ne (ne_of_none q1 e)]; exact z2⟩, s.dom⟩
end
/-- a new object, hidden -/
theorem sy_hide {h : DH} {M H : Hp} {p : Addr} {o : HO} (e : H p = none) : Sy h M H h M (upd H p o) := ⟨Stay.refl _ _, fun a v n q => ⟨by rw [upd_ne (ne_of_none q e)]; exact q, n⟩, dom_upd⟩
theorem Ab.hide {h : DH} {M H : Hp} {p : Addr} {o : HO} (a : Ab K h M H) (e : H p = none) : Ab K h M (upd H p o) := ⟨a.abs, fun x v q => by rw [upd_ne (ne_of_none (a.sub x v q) e)]; exact a.sub x v q⟩
section
variable {X : Cx} {E : WX} {e : Expr} {u : UA}
theorem tVal_of {σ : L2.St} {H : Hp} {Q : VK} (h : tE X.K E (uVal u) σ H Q) : tF X.K E u σ H Q := by
  obtain ⟨ρ, h, M, Q3, E3, ea, ab, q, im, ie⟩ := h
  refine ⟨ρ, h, M, _, E3, ea, ab, q, fun ds h' p vs M' H' q1 a1 s1 e1 n1 e2 r1 => ?_, ie⟩
  refine im (.lst ds) h' (.ref p) _ H' q1 (a1.show_ e2 n1) (s1.show_ ab e1 n1) ?_
  unfold Rep
  exact ⟨p, vs, rfl, a1.abs.free n1, upd_same, r1.stay fun y v n q => ⟨by rw [upd_ne (ne_of_none q n1)]; exact q, n⟩⟩
theorem tTrk_of {σ : L2.St} {H : Hp} {Q : VK} (h : tE X.K E (uTrk u) σ H Q) : tF X.K E u σ H Q := by
  obtain ⟨ρ, h, M, Q3, E3, ea, ab, q, im, ie⟩ := h
  refine ⟨ρ, h, M, _, E3, ea, ab, q, fun ds h' p vs M' H' q1 a1 s1 e1 n1 e2 r1 => ?_, ie⟩
  exact im (.ref p) _ (.ref p) _ H' (q1 p (a1.abs.free n1)) (a1.showPut e2 n1 ⟨vs, rfl, r1⟩) (s1.showPut ab e1 n1) (by unfold Rep; rfl)
theorem e_val (h : PE X e (tF X.K E u)) : PE X e (tE X.K E (uVal u)) := pe_weak h fun _ _ _ q => tVal_of q
theorem e_trk (h : PE X e (tF X.K E u)) : PE X e (tE X.K E (uTrk u)) := pe_weak h fun _ _ _ q => tTrk_of q
/-- [a, b, ..] -/
def fLs (a : UA) : UA := fun ρ h Q E => a ρ h (fun ds h1 => ds.length ≤ sizeLine ∧ Q ds h1) E
theorem f_lst {es : List Expr} {pos : Pos} (h : PA X es (tA X.K E u)) : PE X (.List es pos) (tF X.K E (fLs u)) := pe_weak (pe_lst h) fun σ H Q h => by
  obtain ⟨ρ, h, M, Q3, E3, ea, ab, q, im, ie⟩ := h
  refine ⟨ρ, h, M, _, E3, ea, ab, q, fun ds h1 vs M1 H1 q1 a1 s1 r1 => ?_, ie⟩
  refine ⟨by rw [r1.len]; exact q1.1, fun p hp => ?_⟩
  exact im ds h1 p vs M1 _ q1.2 (a1.hide hp) (s1.trans (sy_hide hp)) (s1.dom p hp) (a1.freeM hp) upd_same r1
theorem RepL.snoc {h : DH} {H : Hp} {d : D} {v : V} (r : Rep K h H d v) : ∀ {ds : List D} {vs : List V}, RepL K h H ds vs → RepL K h H (ds ++ [d]) (vs ++ [v])
  | [], vs, q => by unfold RepL at q; subst q; show RepL K h H [d] [v]; unfold RepL; exact ⟨v, [], rfl, r, by unfold RepL; rfl⟩
  | x :: ds, vs, q => by
    unfold RepL at q
    obtain ⟨w, t, e, a, b⟩ := q
    subst e
    show RepL K h H (x :: (ds ++ [d])) (w :: (t ++ [v]))
    unfold RepL
    exact ⟨w, t ++ [v], rfl, a, RepL.snoc r b⟩
/-! comprehensions -/
def nE : EK := fun _ _ _ => False
def W0 : WX := fun _ _ _ _ => False
def lcl (g : UG) (t : UT) (e : U) (ρ0 : DSt) (ok : DH → Prop) : List D → DH → (List D → DH → Prop) → Prop
  | [], h, Q => ok h ∧ Q [] h
  | d :: ds, h, Q => ok h ∧ g d ρ0 h (fun ρ' h' => t ρ' h' (fun k h1 => match k with
    | true => e ρ' h1 (fun y h2 => lcl g t e ρ0 ok ds h2 (fun ys h3 => Q (y :: ys) h3)) nE
    | false => lcl g t e ρ0 ok ds h1 Q) nE)
def wipeD (ρ : DSt) : List Nat → DSt
  | [] => ρ
  | v :: vs => (wipeD ρ vs).set v none
def fLc (ui : UI) (vs : List Nat) (g : UG) (t : UT) (e : U) : UA := fun ρ h Q E => ui ρ h (fun items ok h1 => items.length ≤ sizeLine ∧ lcl g t e (wipeD ρ vs) ok items h1 Q) E
theorem EAbs.unset {ρ : DSt} {h : DH} {σ : L2.St} {H : Hp} (e : EAbs K ρ h σ H) (i : Nat) : EAbs K (ρ.set i none) h (σ.set i none) H := by
  refine ⟨by simp [e.1], fun j d' q => ?_⟩
  by_cases hj : i = j
  · subst hj
    by_cases hl : i < ρ.length
    · rw [List.getElem?_set_self hl] at q; cases q
    · rw [List.getElem?_eq_none (by simpa using hl)] at q; cases q
  · rw [List.getElem?_set_ne hj] at q ⊢
    exact e.2 j d' q
theorem EAbs.wipe {ρ : DSt} {h : DH} {σ : L2.St} {H : Hp} (e : EAbs K ρ h σ H) : ∀ vs : List Nat, EAbs K (wipeD ρ vs) h (L2.wipe σ vs) H
  | [] => e
  | v :: vs => (e.wipe vs).unset v
theorem wipe_at (σ : L2.St) : ∀ (vs : List Nat) (j : Nat), (L2.wipe σ vs)[j]? = if j ∈ vs then (if j < σ.length then some none else none) else σ[j]?
  | [], j => by simp [L2.wipe]
  | v :: vs, j => by
    unfold L2.wipe
    by_cases hj : v = j
    · subst hj
      rw [if_pos (List.mem_cons_self ..)]
      split
      · rename_i hl
        rw [List.getElem?_set_self (by rw [wipe_length]; exact hl)]
      · rename_i hl
        rw [List.getElem?_eq_none (by rw [List.length_set, wipe_length]; omega)]
    · rw [List.getElem?_set_ne hj, wipe_at σ vs j]
      by_cases hm : j ∈ vs
      · rw [if_pos hm, if_pos (List.mem_cons_of_mem _ hm)]
      · rw [if_neg hm, if_neg (fun z => (List.mem_cons.mp z).elim (fun e => hj e.symm) hm)]
theorem wipe_only {σ σ2 : L2.St} {vs : List Nat} (o : OnlyAt vs (L2.wipe σ vs) σ2) : L2.wipe σ2 vs = L2.wipe σ vs := by
  apply List.ext_getElem?
  intro j
  have l : σ2.length = σ.length := o.1.trans (wipe_length σ vs)
  rw [wipe_at, wipe_at]
  by_cases hm : j ∈ vs
  · rw [if_pos hm, if_pos hm, l]
  · rw [if_neg hm, if_neg hm, o.2 j hm, wipe_at, if_neg hm]
theorem tLc_of {ui : UI} {g : UG} {t : UT} {el : U} {vs : List Nat} {σ : L2.St} {H : Hp} {Q : VK} (h : tF X.K E (fLc ui vs g t el) σ H Q) : tLc (tI X.K E ui) (tG X.K vs g) (tT X.K W0 t) (tE X.K W0 el) vs σ H Q := by
  obtain ⟨ρ, h, M, Q3, E3, ea, ab, q, im, ie⟩ := h
  refine ⟨ρ, h, M, _, E3, ea, ab, q, fun items ok h1 J M1 H1 q1 a1 s1 w p hp => ?_, ie⟩
  obtain ⟨hz, q1⟩ := q1
  have sp : Sy h M H h1 M1 (upd H1 p (.lst [])) := s1.trans (sy_hide hp)
  refine ⟨fun i m H => ∃ h' M' vs acc, i + m = items.length ∧ vs.length ≤ i ∧ Ab X.K h' M' H ∧ Sy h1 M1 H1 h' M' H ∧ M' p = none ∧ H p = some (.lst vs) ∧ RepL X.K h' M' acc vs ∧ lcl g t el (wipeD ρ _) ok (items.drop i) h' (fun ys h3 => Q3 (acc ++ ys) h3), ⟨items.length, h1, M1, [], [], by omega, Nat.le_refl _, a1.hide hp, sy_hide hp, a1.freeM hp, upd_same, by unfold RepL; rfl, q1⟩, ?_⟩
  rintro i m H2 ⟨h2, M2, vs2, acc, em, hl, a2, s2, n2, e2, r2, q2⟩
  by_cases hlt : i < items.length
  · rw [List.drop_eq_getElem_cons hlt] at q2
    obtain ⟨hok, q2⟩ := q2
    obtain ⟨go, yl⟩ := w.go i items[i] h2 M2 H2 s2 a2 hok (List.getElem?_eq_getElem hlt)
    refine .inr ⟨go, fun H' => ∃ h' M' vs acc, vs.length ≤ i + 1 ∧ Ab X.K h' M' H' ∧ Sy h1 M1 H1 h' M' H' ∧ M' p = none ∧ H' p = some (.lst vs) ∧ RepL X.K h' M' acc vs ∧ lcl g t el (wipeD ρ _) ok (items.drop (i + 1)) h' (fun ys h3 => Q3 (acc ++ ys) h3), fun H' ⟨h', M', vs', acc', z0, z1, z2, z3, z4, z5, z6⟩ => ⟨m - 1, by omega, h', M', vs', acc', by omega, z0, z1, z2, z3, z4, z5, z6⟩, fun x H' y => ?_⟩
    obtain ⟨M', a', s', r'⟩ := yl x H' y
    have ew := (ea.stay s1.st).stay s2.st
    refine ⟨items[i], wipeD ρ _, h2, M', _, r', (ew.stay s'.st).wipe _, a', q2, fun ρ3 h3 σ3 M3 H3 q3 e3 a3 s3 o3 => ⟨wipe_only o3, ?_⟩⟩
    refine ⟨ρ3, h3, M3, _, nE, e3, a3, q3, fun k h4 M4 H4 q4 a4 s4 => ?_, fun _ _ _ _ _ _ z => z.elim⟩
    have sy4 := ((s2.trans s').trans s3).trans s4
    have hid := (s'.trans (s3.trans s4)).hid p _ n2 e2
    cases k with
    | false =>
      exact iteF ⟨h4, M4, vs2, acc, by omega, a4, sy4, hid.2, hid.1, r2.stay (s'.trans (s3.trans s4)).st, q4⟩
    | true =>
      refine iteT ⟨ρ3, h4, M4, _, nE, e3.stay s4.st, a4, q4, fun d h5 v M5 H5 q5 a5 s5 r5 => ?_, fun _ _ _ _ _ _ z => z.elim⟩
      have hid5 := s5.hid p _ hid.2 hid.1
      refine ⟨vs2, hid5.1, by omega, h5, M5, vs2 ++ [v], acc ++ [d], by simp; omega, ?_, ?_, hid5.2, upd_same, ?_, ?_⟩
      · exact ⟨a5.abs, fun x o z => by
          rw [upd_ne (fun z2 => by rw [z2, hid5.2] at z; cases z)]
          exact a5.sub x o z⟩
      · have s15 := sy4.trans s5
        exact ⟨s15.st, fun x o n1 z => by
          have hx : x ≠ p := fun z2 => by rw [z2, hp] at z; cases z
          rw [upd_ne hx]
          exact s15.hid x o n1 z, fun x z => s15.dom x (dom_upd x z)⟩
      · have rr := (r2.stay (s'.trans (s3.trans s4)).st).stay s5.st
        exact RepL.snoc r5 rr
      · have e : (fun ys h3 => Q3 ((acc ++ [d]) ++ ys) h3) = fun ys h3 => Q3 (acc ++ d :: ys) h3 := by
          funext ys h3; rw [List.append_assoc]; rfl
        rw [e]
        exact q5
  · have e : i = items.length := by omega
    subst e
    rw [List.drop_length] at q2
    refine .inl ⟨w.stop h2 M2 H2 s2 a2 q2.1, ?_⟩
    have q3 : Q3 (acc ++ []) h2 := q2.2
    rw [List.append_nil] at q3
    exact im acc h2 p vs2 M2 H2 q3 a2 (s1.trans s2) (s1.dom p hp) n2 e2 r2
variable {elt tg iter : Expr} {ifs : List Expr} {scope : Scope} {pos : Pos} {ui : UI} {g : UG} {t : UT} {el : U}
theorem f_lc (own : List (Str × Nat)) {vs : List Nat} (hv : own.map (·.2) = vs) (hc : X.calm = true) (hN : X.N.Nodup) (hi : PI X tg iter (tI X.K E ui)) (ok : BlkOk X.N X.env.scope scope own)
    (hg : ∀ (s : Shared) (H : Hp) (C : Addr) (cl : List (Str × Addr)) (fp : List Addr), PG (X.blk s H scope (compEnvC scope cl C X.env) fp) tg (tG X.K vs g)) (ht : ∀ (s : Shared) (H : Hp) (C : Addr) (cl : List (Str × Addr)) (fp : List Addr), PTs (X.blk s H scope (compEnvC scope cl C X.env) fp) ifs (tT X.K W0 t))
    (he : ∀ (s : Shared) (H : Hp) (C : Addr) (cl : List (Str × Addr)) (fp : List Addr), PE (X.blk s H scope (compEnvC scope cl C X.env) fp) elt (tE X.K W0 el)) (hs : ∀ x, foldedSetIterable iter X.env x = pure x := by intro _; rfl) :
    PE X (.ListComp elt [⟨tg, iter, ifs, 0⟩] scope pos) (tF X.K E (fLc ui vs g t el)) := by
  subst hv
  exact pe_weak (pe_lc hc hN hi ok hg ht he hs) fun _ _ _ h => tLc_of h
/-- name = [..] on one line -/
theorem s_setLc (own : List (Str × Nat)) {vs : List Nat} (hv : own.map (·.2) = vs) {i : Nat} {y : Str} {py spos : Pos} {w : UA → U} (hwv : ∀ (u : UA) σ H Q, tE X.K E (w u) σ H Q → tF X.K E u σ H Q) (hc : X.calm = true) (hN : X.N.Nodup) (hy : X.N[i]? = some y) (hyl : X.env.scope.names.lookup y = some .local)
    (hsw : swapsWith (.ListComp elt [⟨tg, iter, ifs, 0⟩] scope pos) (some (.Name y py)) spos.line X.env = pure true) (hi : PI X tg iter (tI X.K E ui)) (ok : BlkOk X.N X.env.scope scope own)
    (hg : ∀ (s : Shared) (H : Hp) (C : Addr) (cl : List (Str × Addr)) (fp : List Addr), PG (X.blk s H scope (compEnvC scope cl C X.env) fp) tg (tG X.K vs g)) (ht : ∀ (s : Shared) (H : Hp) (C : Addr) (cl : List (Str × Addr)) (fp : List Addr), PTs (X.blk s H scope (compEnvC scope cl C X.env) fp) ifs (tT X.K W0 t))
    (he : ∀ (s : Shared) (H : Hp) (C : Addr) (cl : List (Str × Addr)) (fp : List Addr), PE (X.blk s H scope (compEnvC scope cl C X.env) fp) elt (tE X.K W0 el)) (hs : ∀ x, foldedSetIterable iter X.env x = pure x := by intro _; rfl) :
    PS X (.Assign [.Name y py] (.ListComp elt [⟨tg, iter, ifs, 0⟩] scope pos) spos) (tS X.K E (sAs (w (fLc ui vs g t el)) (gV i))) := by
  subst hv
  exact ps_weak (ps_setLc hc hN hy hyl hsw hi ok hg ht he hs) fun D' σ H h => by
    have z := tAsgV_of h
    exact tLc_of (hwv _ _ _ _ z)
theorem ts_nil : PTs X [] (tT X.K E (fun _ h Q _ => Q true h)) := ⟨fun pins s σ H Q I h => by
  obtain ⟨ρ, h, M, Q3, E3, ea, ab, q, im, ie⟩ := h
  exact wpAny_tests_nil ⟨H, I, im true h M H q ab (Sy.refl _ _ _)⟩⟩
theorem ts_one {c : Expr} (h : PT X c (tT X.K E t)) : PTs X [c] (tT X.K E t) := pts_one h
end
def yes : UT := fun _ h Q _ => Q true h

/-! defs -/
abbrev Sp3 := List D → DH → QK → XE3 → Prop
def lift (K : PySem.W.Frag) (sp : Sp3) : Sp := fun vs H Q E => ∃ ds h M Q3 E3, RepL K h M ds vs ∧ Ab K h M H ∧ sp ds h Q3 E3 ∧ Imp K h M H Q3 Q ∧ ∀ c h' M' H', E3 c h' → Ab K h' M' H' → Sy h M H h' M' H' → E c none H'
def uCl (sp : Sp3) (a : UA) : U := fun ρ h Q E => a ρ h (fun ds h1 => sp ds h1 Q (fun c h' => E c ρ h')) E
/-- the reading of a def: its body; what it made and does not hand on is forgotten -/
def dEnds (Q : QK) (E : XE3) : DEnds := { nx := fun _ h' => ∃ h2, Sub h2 h' ∧ Q .non h2, rt := fun d h' => ∃ h2, Sub h2 h' ∧ Q d h2, bk := fun _ _ => False, ct := fun _ _ => False, ex := fun c _ h' => ∃ h2, Sub h2 h' ∧ E c h2 }
def dfn (n m : Nat) (u : US) : Sp3 := fun ds h Q E => ds.length = n ∧ u (dEnds Q E) (ds.map some ++ List.replicate m none) h
section
variable {P : Program} {w : World} {K : PySem.W.Frag} {mg : Str → Option Value} {base : Heap}
theorem EAbs.start {h : DH} {M : Hp} {N : List Str} : ∀ {ds : List D} {vs : List V} (m : Nat), RepL K h M ds vs → EAbs K (ds.map some ++ List.replicate m none) h (vs.map some ++ List.replicate m none) M := fun {ds vs} m r => by
  refine ⟨by simp [r.len], fun i d q => ?_⟩
  have key : ∀ (ds : List D) (vs : List V) (i : Nat), RepL K h M ds vs → (ds.map some ++ List.replicate m none)[i]? = some (some d) → ∃ v, (vs.map some ++ List.replicate m none)[i]? = some (some v) ∧ Rep K h M d v := by
    intro ds
    induction ds with
    | nil =>
      intro vs i r q
      rw [List.map_nil, List.nil_append, List.getElem?_replicate] at q
      split at q <;> cases q
    | cons x ds ih =>
      intro vs i r q
      unfold RepL at r
      obtain ⟨v, t, e, a, b⟩ := r
      subst e
      cases i with
      | zero => cases q; exact ⟨v, rfl, a⟩
      | succ i => exact ih t i b q
  exact key ds vs i r q
/-- THE RULE for a def -/
theorem fn3 {x qual : Str} {params : Arguments} {body : List Stmt} {scope : Scope} {dvs : List V} {kws : List (Str × V)} {f : Addr} {fd : FuncData} {N ps : List Str} {k m : Nat} {u : US} (F : FunD K x qual params body scope dvs kws f fd) (S : FnScope N ps scope) (hm : N.length - ps.length = m)
    (hbody : ∀ (cdv : Value) (A : Around) (outer : List Env) (s : Shared) (H : Hp) (E : XK), Room k (A.deeper (envOfC qual scope s.heap.objs.size f cdv)) →
      PSs (cxOf (L2.CX P w) P w K mg base N qual scope f cdv A outer s H E) body (tS K (fun c d _ H => E c d H) u)) : FnOk P w K mg base (L2.CX P w) (k + 1) f fd ps (lift K (dfn ps.length m u)) := by
  refine F.ok S (fun vs H Q E h => ?_) (fun cdv A outer s H vs Q E hr h => ?_)
  · obtain ⟨ds, h, M, Q3, E3, r, ab, q, im, ie⟩ := h
    rw [r.len]; exact q.1
  · refine ⟨_, hbody cdv A outer s H E hr, ?_⟩
    obtain ⟨ds, h, M, Q3, E3, r, ab, q, im, ie⟩ := h
    have lv : vs.length = ps.length := by rw [r.len]; exact q.1
    refine ⟨_, h, M, _, ?_, ab, q.2, ?_⟩
    · have e := EAbs.start (N := N) m r
      unfold L2.start
      rw [lv, hm]
      exact e
    · refine ⟨fun ρ1 h1 σ1 M1 H1 ⟨h2, s2, q1⟩ e1 a1 s1 => ?_, fun d h1 v M1 H1 ⟨h2, s2, q1⟩ a1 s1 r1 => ?_, fun _ _ _ _ _ z => z.elim, fun _ _ _ _ _ z => z.elim, fun c ρ1 h1 σ1 M1 H1 ⟨h2, s2, q1⟩ e1 a1 s1 => ?_⟩
      · exact im .non h2 .non M1 H1 q1 (a1.drop s2) (s1.trans (sy_sub s2)) (by unfold Rep; rfl)
      · exact im d h2 v M1 H1 q1 (a1.drop s2) (s1.trans (sy_sub s2)) (r1.stay (sy_sub (H := H1) s2).st)
      · exact ie c h2 M1 H1 q1 (a1.drop s2) (s1.trans (sy_sub s2))
end
section
variable {X : Cx} {W : WX} {k : Nat} {f C : Addr} {fd : FuncData} {ps : List Str} {sp : Sp3} {x m : Str} {p pos apos : Pos} {e o : Expr} {es : List Expr} {ua : UA}
/-- f(e, ..) -/
theorem e_call (F : FnOk X.prog X.w X.K X.mg X.base (L2.CX X.prog X.w) k f fd ps (lift X.K sp)) (hr : Room k X.A) (hg : Gl X x) (hm : X.mg x = some (.ref f)) (hk : PySem.W.keepIn X.K (.ref f) = true) (hb : Binds X.K fd ps []) (tk : Takes X W)
    (ha : PA X (e :: es) (tA X.K W ua)) (hdb : (x == ("__debug__" : Str)) = false := by decide) (he : starEach (e :: es) X.env = (false, eval e X.env) :: starEach es X.env := by rfl) (hpl : (backTo pos (starEach es X.env)).any (·.1) = false := by rfl) :
    PE X (.Call (.Name x p) (e :: es) [] pos) (tE X.K W (uCl sp ua)) := pe_weak (pe_callS F hr hg hm hk hb (fun σ => passAt tk σ) ha hdb he hpl) fun σ H Q h => by
  obtain ⟨ρ, h, M, Q3, E3, ea, ab, q, im, ie⟩ := h
  refine ⟨ρ, h, M, _, E3, ea, ab, q, fun ds h1 vs M1 H1 q1 a1 s1 r1 => ?_, ie⟩
  exact ⟨ds, h1, M1, Q3, _, r1, a1, q1, im.stay s1, fun c h2 M2 H2 q2 a2 s2 => ie c ρ h2 σ M2 H2 q2 (ea.stay (s1.trans s2).st) a2 (s1.trans s2)⟩
end
end L3

set_option Elab.async false
set_option linter.all false
set_option maxRecDepth 100000
set_option maxHeartbeats 4000000
namespace L3
open PySem PySem.Spec PyProof.Rows L2
variable {K : PySem.W.Frag}
/-! what is walked: lists, tuples, ranges -/
theorem RepL.get {h : DH} {H : Hp} : ∀ {ds : List D} {vs : List V} {i : Nat} {d : D}, RepL K h H ds vs → ds[i]? = some d → ∃ v, vs[i]? = some v ∧ Rep K h H d v
  | [], _, _, _, _, e => by simp at e
  | x :: ds, vs, i, d, r, e => by
    unfold RepL at r
    obtain ⟨v, t, e1, a, b⟩ := r
    subst e1
    cases i with
    | zero => simp at e; subst e; exact ⟨v, rfl, a⟩
    | succ i =>
      obtain ⟨w, h1, h2⟩ := RepL.get (i := i) b (by simpa using e)
      exact ⟨w, by simpa using h1, h2⟩
theorem RepL.of_get {h : DH} {H : Hp} : ∀ {ds : List D} {vs : List V}, vs.length = ds.length → (∀ (i : Nat) (d : D) (v : V), ds[i]? = some d → vs[i]? = some v → Rep K h H d v) → RepL K h H ds vs
  | [], vs, l, _ => by unfold RepL; exact List.length_eq_zero_iff.mp l
  | d :: ds, [], l, _ => by cases l
  | d :: ds, v :: vs, l, k => by
    unfold RepL
    exact ⟨v, vs, rfl, k 0 d v rfl rfl, RepL.of_get (by simpa using l) fun i d' v' e1 e2 => k (i + 1) d' v' (by simpa using e1) (by simpa using e2)⟩
def always : DH → Prop := fun _ => True
def iSqD (d : D) (h : DH) (R : List D → (DH → Prop) → DH → Prop) : Prop := match d with
  | .tup ds => R ds always h
  | .lst ds => R ds always h
  | .frz ds => R ds always h
  | .ref p => match h p with
    | some (.lst ds) => R ds (fun h => h p = some (.lst ds)) h
    | _ => False
  | _ => False
def iSq (u : U) : UI := fun ρ h R E => u ρ h (fun d h1 => iSqD d h1 R) E
def iR1 (a : UA) : UI := fun ρ h R E => a ρ h (fun ds h1 => match ds with
  | [.int j] => (-(2 ^ 62) ≤ j ∧ j < 2 ^ 62) ∧ R ((List.range j.toNat).map fun i : Nat => D.int (i : Int)) always h1
  | _ => False) E
def iR2 (a : UA) : UI := fun ρ h R E => a ρ h (fun ds h1 => match ds with
  | [.int i, .int j] => (-(2 ^ 62) ≤ i ∧ i < 2 ^ 62 ∧ -(2 ^ 62) ≤ j ∧ j < 2 ^ 62) ∧ R ((List.range (j - i).toNat).map fun k : Nat => D.int (i + (k : Int))) always h1
  | _ => False) E
/-- range(a, b, -1) -/
def iR3 (a : UA) : UI := fun ρ h R E => a ρ h (fun ds h1 => match ds with
  | [.int i, .int j, .int c] => (-(2 ^ 62) ≤ i ∧ i < 2 ^ 62 ∧ -(2 ^ 62) ≤ j ∧ j < 2 ^ 62) ∧ c = -1 ∧ R ((List.range (i - j).toNat).map fun k : Nat => D.int (i - (k : Int))) always h1
  | _ => False) E
theorem pi_sq {X : Cx} {tg l : Expr} {tl : TE} (hl : PE X l tl) : PI X tg l (fun σ H R => tl σ H fun x H1 => (∃ a, x = .ref a ∧ (∃ xs, SqL X.K H1 a xs) ∧ R (Itl X.K a) H1) ∨ (∃ a, x = .ref a ∧ (∃ xs, SqT X.K H1 a xs) ∧ R (Itt X.K a) H1)) := by
  refine ⟨fun pins s σ H R I h => ?_⟩
  refine thn (hl.run pins s σ H _ I h) fun v s1 ⟨x, H1, I1, r1, q1⟩ => ?_
  rcases q1 with ⟨a, e, ⟨xs, hq⟩, q⟩ | ⟨a, e, ⟨xs, hq⟩, q⟩
  · subst e
    cases r1
    obtain ⟨its, rv, p, hz⟩ := I1.list hq
    refine wpAny_pyIter_list p.isList ?_
    refine ⟨s1.heap.objs.size, [s1.heap.objs.size], _, _, H1, rfl, I1.kept (t' := s1.toks) fun b o e => Heap.get?_push_of_some _ e, turn_list a _, ⟨_, Heap.get?_push_size _ rfl, rfl, rfl⟩, fun b hb => ?_, q⟩
    have e : b = s1.heap.objs.size := by simpa using hb
    subst e
    exact I1.fpOk (Nat.le_refl _) (I1.hok.fresh (Nat.le_refl _))
  · subst e
    cases r1
    obtain ⟨its, rv, p, hz⟩ := I1.tuple hq
    refine wpAny_pyIter_tuple (show s1.heap.IsTuple a its.toArray from p) ?_
    refine ⟨s1.heap.objs.size, [s1.heap.objs.size], _, _, H1, rfl, I1.kept (t' := s1.toks) fun b o e => Heap.get?_push_of_some _ e, turn_tuple a _, ⟨_, Heap.get?_push_size _ rfl, rfl, rfl⟩, fun b hb => ?_, q⟩
    have e : b = s1.heap.objs.size := by simpa using hb
    subst e
    exact I1.fpOk (Nat.le_refl _) (I1.hok.fresh (Nat.le_refl _))
theorem Rd.stay {h h' : DH} {M M' : Hp} (s : Stay h M h' M') {a : Addr} {o : HO} (n : h a = none) (r : Rd M a o) : Rd M' a o ∧ h' a = none := by
  rcases r with r | ⟨u, r⟩
  · exact ⟨.inl (s a _ n r).1, (s a _ n r).2⟩
  · exact ⟨.inr ⟨u, (s a _ n r).1⟩, (s a _ n r).2⟩
theorem rd_inj {H : Hp} {a : Addr} {xs ys : List V} (r : Rd H a (.lst xs)) (q : Rd H a (.lst ys)) : xs = ys := by
  rcases r with r | ⟨u, r⟩ <;> rcases q with q | ⟨w, q⟩
  · rw [r] at q; cases q; rfl
  · rw [r] at q; cases q
  · rw [r] at q; cases q
  · rw [r] at q; cases q; rfl
section
variable {K : PySem.W.Frag} {a : Addr} {ds : List D} {vs : List V} {h : DH} {M H : Hp}
theorem wk_list (n : h a = none) (r : Rd M a (.lst vs)) (rl : RepL K h M ds vs) : Wk K (Itl K a) ds always h M H where
  go := fun i d h' M' H' sy ab _ e => by
    obtain ⟨r', n'⟩ := Rd.stay sy.st n r
    obtain ⟨v, e1, rv⟩ := (rl.stay sy.st).get e
    refine ⟨⟨vs, v, .inl (ab.rd r'), e1⟩, fun x H2 ⟨z1, z2⟩ => ?_⟩
    subst z1
    have e3 := z2 vs (.inl (ab.rd r'))
    rw [e1] at e3; cases e3
    exact ⟨M', ab, Sy.refl _ _ _, rv⟩
  stop := fun h' M' H' sy ab _ => by
    obtain ⟨r', n'⟩ := Rd.stay sy.st n r
    exact ⟨vs, .inl (ab.rd r'), by rw [rl.len]; exact Nat.le_refl _⟩
theorem Ab.frz (ab : Ab K h M H) (r : FrzL K h M a vs) : SqL K H a vs := by
  rcases r with ⟨n, o, q⟩ | r
  · exact .inl (.inr ⟨o, ab.sub _ _ q⟩)
  · exact .inr r
theorem wk_frz (r : FrzL K h M a vs) (rl : RepL K h M ds vs) : Wk K (Itl K a) ds always h M H where
  go := fun i d h' M' H' sy ab _ e => by
    have r' := FrzL.stay sy.st r
    obtain ⟨v, e1, rv⟩ := (rl.stay sy.st).get e
    refine ⟨⟨vs, v, ab.frz r', e1⟩, fun x H2 ⟨z1, z2⟩ => ?_⟩
    subst z1
    have e3 := z2 vs (ab.frz r')
    rw [e1] at e3; cases e3
    exact ⟨M', ab, Sy.refl _ _ _, rv⟩
  stop := fun h' M' H' sy ab _ => by
    have r' := FrzL.stay sy.st r
    exact ⟨vs, ab.frz r', by rw [rl.len]; exact Nat.le_refl _⟩
theorem wk_trk : Wk K (Itl K a) ds (fun h => h a = some (.lst ds)) h M H where
  go := fun i d h' M' H' sy ab ok e => by
    obtain ⟨u, hu, vs, e0, rl⟩ := ab.abs a _ ok
    subst e0
    obtain ⟨v, e1, rv⟩ := rl.get e
    have sq : SqL K H' a vs := SqL.of (ab.sub _ _ hu)
    refine ⟨⟨vs, v, sq, e1⟩, fun x H2 ⟨z1, z2⟩ => ?_⟩
    subst z1
    have e3 := z2 vs sq
    rw [e1] at e3; cases e3
    exact ⟨M', ab, Sy.refl _ _ _, rv⟩
  stop := fun h' M' H' sy ab ok => by
    obtain ⟨u, hu, vs, e0, rl⟩ := ab.abs a _ ok
    subst e0
    exact ⟨vs, SqL.of (ab.sub _ _ hu), by rw [rl.len]; exact Nat.le_refl _⟩
theorem wk_tup (n : h a = none) (r : M a = some (.tup vs)) (rl : RepL K h M ds vs) : Wk K (Itt K a) ds always h M H where
  go := fun i d h' M' H' sy ab _ e => by
    obtain ⟨r', n'⟩ := sy.st a _ n r
    obtain ⟨v, e1, rv⟩ := (rl.stay sy.st).get e
    have sq : SqT K H' a vs := SqT.of (ab.sub _ _ r')
    refine ⟨⟨vs, v, sq, e1⟩, fun x H2 ⟨z1, z2⟩ => ?_⟩
    subst z1
    have e3 := z2 vs sq
    rw [e1] at e3; cases e3
    exact ⟨M', ab, Sy.refl _ _ _, rv⟩
  stop := fun h' M' H' sy ab _ => by
    obtain ⟨r', n'⟩ := sy.st a _ n r
    exact ⟨vs, SqT.of (ab.sub _ _ r'), by rw [rl.len]; exact Nat.le_refl _⟩
theorem wk_rng {lo : Int} {n : Nat} : Wk K (Itr lo n) ((List.range n).map fun k : Nat => D.int (lo + (k : Int))) always h M H where
  go := fun i d h' M' H' sy ab _ e => by
    rw [List.getElem?_map] at e
    cases hi : (List.range n)[i]? with
    | none => rw [hi] at e; cases e
    | some k =>
      rw [hi] at e
      obtain ⟨hl, hk⟩ := List.getElem?_eq_some_iff.mp hi
      rw [List.length_range] at hl
      rw [List.getElem_range] at hk
      subst hk
      cases e
      exact ⟨hl, fun x H2 ⟨z1, z2⟩ => by subst z1; exact ⟨M', ab, Sy.refl _ _ _, by unfold Rep; exact z2⟩⟩
  stop := fun h' M' H' sy ab _ => by
    show n ≤ _
    rw [List.length_map, List.length_range]; exact Nat.le_refl _
theorem wk_rngC {lo c : Int} {n : Nat} : Wk K (Itc lo c n) ((List.range n).map fun k : Nat => D.int (lo + (k : Int) * c)) always h M H where
  go := fun i d h' M' H' sy ab _ e => by
    rw [List.getElem?_map] at e
    cases hi : (List.range n)[i]? with
    | none => rw [hi] at e; cases e
    | some k =>
      rw [hi] at e
      obtain ⟨hl, hk⟩ := List.getElem?_eq_some_iff.mp hi
      rw [List.length_range] at hl
      rw [List.getElem_range] at hk
      subst hk
      cases e
      exact ⟨hl, fun x H2 ⟨z1, z2⟩ => by subst z1; exact ⟨M', ab, Sy.refl _ _ _, by unfold Rep; exact z2⟩⟩
  stop := fun h' M' H' sy ab _ => by
    show n ≤ _
    rw [List.length_map, List.length_range]; exact Nat.le_refl _
end
section
variable {X : Cx} {E : WX} {tg e : Expr} {u : U} {a : UA}
theorem i_sq (he : PE X e (tE X.K E u)) : PI X tg e (tI X.K E (iSq u)) := pi_weak (pi_sq he) fun σ H R h => by
  obtain ⟨ρ, h, M, R3, E3, ea, ab, q, im, ie⟩ := h
  refine ⟨ρ, h, M, _, E3, ea, ab, q, fun d h1 v M1 H1 q1 a1 s1 r1 => ?_, ie⟩
  cases d with
  | tup ds =>
    unfold Rep at r1
    obtain ⟨p, vs, e1, n1, e2, rl⟩ := r1
    subst e1
    exact .inr ⟨p, rfl, ⟨vs, SqT.of (a1.sub _ _ e2)⟩, im ds always h1 _ M1 H1 q1 a1 s1 (wk_tup n1 e2 rl)⟩
  | lst ds =>
    unfold Rep at r1
    obtain ⟨p, vs, e1, n1, e2, rl⟩ := r1
    subst e1
    exact .inl ⟨p, rfl, ⟨vs, SqL.of (a1.sub _ _ e2)⟩, im ds always h1 _ M1 H1 q1 a1 s1 (wk_list n1 (.inl e2) rl)⟩
  | frz ds =>
    unfold Rep at r1
    obtain ⟨p, vs, e1, e2, rl⟩ := r1
    subst e1
    exact .inl ⟨p, rfl, ⟨vs, a1.frz e2⟩, im ds always h1 _ M1 H1 q1 a1 s1 (wk_frz e2 rl)⟩
  | ref p =>
    unfold Rep at r1
    have q2 : match h1 p with | some (.lst ds) => R3 ds (fun h => h p = some (.lst ds)) h1 | _ => False := q1
    split at q2
    · rename_i ds hp
      obtain ⟨w, hw, vs, e0, rl⟩ := a1.abs p _ hp
      subst e0
      exact .inl ⟨p, r1, ⟨vs, SqL.of (a1.sub _ _ hw)⟩, im ds _ h1 _ M1 H1 q2 a1 s1 wk_trk⟩
    · exact q2.elim
  | _ => exact q1.elim
theorem RepL.one {h : DH} {H : Hp} {d : D} {vs : List V} (r : RepL K h H [d] vs) : ∃ v, vs = [v] ∧ Rep K h H d v := by
  unfold RepL at r
  obtain ⟨v, t, e, a, b⟩ := r
  unfold RepL at b
  subst b
  exact ⟨v, e, a⟩
theorem RepL.two {h : DH} {H : Hp} {d d2 : D} {vs : List V} (r : RepL K h H [d, d2] vs) : ∃ v w, vs = [v, w] ∧ Rep K h H d v ∧ Rep K h H d2 w := by
  unfold RepL at r
  obtain ⟨v, t, e, a, b⟩ := r
  obtain ⟨w, e2, c⟩ := b.one
  subst e2
  exact ⟨v, w, e, a, c⟩
theorem RepL.three {h : DH} {H : Hp} {d d2 d3 : D} {vs : List V} (r : RepL K h H [d, d2, d3] vs) : ∃ v w z, vs = [v, w, z] ∧ Rep K h H d v ∧ Rep K h H d2 w ∧ Rep K h H d3 z := by
  unfold RepL at r
  obtain ⟨v, t, e, a, b⟩ := r
  obtain ⟨w, z, e2, c, d⟩ := b.two
  subst e2
  exact ⟨v, w, z, e, a, c, d⟩
theorem i_r1 {x : Expr} {p pos : Pos} (hg : Gl X "range") (hm : X.mg "range" = none) (ha : PA X [x] (tA X.K E a)) (hs : starEach [x] X.env = [(false, eval x X.env)] := by rfl) : PI X tg (.Call (.Name "range" p) [x] [] pos) (tI X.K E (iR1 a)) := pi_weak (pi_range1 hg hm ha hs) fun σ H R h => by
  obtain ⟨ρ, h, M, R3, E3, ea, ab, q, im, ie⟩ := h
  refine ⟨ρ, h, M, _, E3, ea, ab, q, fun ds h1 vs M1 H1 q1 a1 s1 r1 => ?_, ie⟩
  dsimp only at q1
  split at q1
  · rename_i j
    obtain ⟨v, e1, rv⟩ := r1.one
    unfold Rep at rv
    subst e1; subst rv
    refine ⟨j, rfl, q1.1.1, q1.1.2, im _ always h1 _ M1 H1 q1.2 a1 s1 ?_⟩
    have w := wk_rng (K := X.K) (lo := 0) (n := j.toNat) (h := h1) (M := M1) (H := H1)
    have e : (List.range j.toNat).map (fun k : Nat => D.int ((0 : Int) + (k : Int))) = (List.range j.toNat).map fun i : Nat => D.int (i : Int) := by
      congr 1; funext k; rw [Int.zero_add]
    rw [e] at w
    exact w
  · exact q1.elim
theorem i_r2 {x y : Expr} {p pos : Pos} (hg : Gl X "range") (hm : X.mg "range" = none) (ha : PA X [x, y] (tA X.K E a)) (hs : starEach [x, y] X.env = [(false, eval x X.env), (false, eval y X.env)] := by rfl) (hs2 : starEach [y] X.env = [(false, eval y X.env)] := by rfl) : PI X tg (.Call (.Name "range" p) [x, y] [] pos) (tI X.K E (iR2 a)) := pi_weak (pi_range2 hg hm ha hs hs2) fun σ H R h => by
  obtain ⟨ρ, h, M, R3, E3, ea, ab, q, im, ie⟩ := h
  refine ⟨ρ, h, M, _, E3, ea, ab, q, fun ds h1 vs M1 H1 q1 a1 s1 r1 => ?_, ie⟩
  dsimp only at q1
  split at q1
  · rename_i i j
    obtain ⟨v, w, e1, rv, rw'⟩ := r1.two
    unfold Rep at rv rw'
    subst e1; subst rv; subst rw'
    exact ⟨i, j, rfl, q1.1, im _ always h1 _ M1 H1 q1.2 a1 s1 wk_rng⟩
  · exact q1.elim
theorem i_r3 {x y z : Expr} {p pos : Pos} (hg : Gl X "range") (hm : X.mg "range" = none) (ha : PA X [x, y, z] (tA X.K E a)) (hs : starEach [x, y, z] X.env = (false, eval x X.env) :: starEach [y, z] X.env := by rfl) (hpl : (backTo pos (starEach [y, z] X.env)).any (·.1) = false := by rfl) : PI X tg (.Call (.Name "range" p) [x, y, z] [] pos) (tI X.K E (iR3 a)) := pi_weak (pi_range3 hg hm ha hs hpl) fun σ H R h => by
  obtain ⟨ρ, h, M, R3, E3, ea, ab, q, im, ie⟩ := h
  refine ⟨ρ, h, M, _, E3, ea, ab, q, fun ds h1 vs M1 H1 q1 a1 s1 r1 => ?_, ie⟩
  dsimp only at q1
  split at q1
  · rename_i i j c
    obtain ⟨v, w, z, e1, rv, rw', rz⟩ := r1.three
    unfold Rep at rv rw' rz
    subst e1; subst rv; subst rw'; subst rz
    obtain ⟨⟨b1, b2, b3, b4⟩, rfl, q2⟩ := q1
    refine ⟨i, j, -1, (i - j).toNat, rfl, RgC.neg b1 b2 b3 b4, im _ always h1 _ M1 H1 q2 a1 s1 ?_⟩
    have w := wk_rngC (K := X.K) (lo := i) (c := -1) (n := (i - j).toNat) (h := h1) (M := M1) (H := H1)
    have e : (List.range (i - j).toNat).map (fun k : Nat => D.int (i + (k : Int) * (-1))) = (List.range (i - j).toNat).map fun k : Nat => D.int (i - (k : Int)) := by
      congr 1; funext k; congr 1; omega
    rw [e] at w
    exact w
  · exact q1.elim
end
end L3

set_option Elab.async false
set_option linter.all false
set_option maxRecDepth 100000
set_option maxHeartbeats 4000000
namespace L3
open PySem PySem.Spec PyProof.Rows L2
variable {K : PySem.W.Frag}
section
variable {h : DH} {M H : Hp} {d : D} {v : V} {Q3 : QK} {Q : VK} {ds : List D} {vs : List V}
theorem Rep.dInt {i : Int} (r : Rep K h M d v) (e : deref h d = .int i) : v = .int i := by
  rw [r.notLst (by intro ds z; rw [e] at z; cases z)] at e; subst e; unfold Rep at r; exact r
theorem Rep.dBl {i : Bool} (r : Rep K h M d v) (e : deref h d = .bl i) : v = .bl i := by
  rw [r.notLst (by intro ds z; rw [e] at z; cases z)] at e; subst e; unfold Rep at r; exact r
theorem Rep.dStr {i : Str} (r : Rep K h M d v) (e : deref h d = .str i) : v = .str i := by
  rw [r.notLst (by intro ds z; rw [e] at z; cases z)] at e; subst e; unfold Rep at r; exact r
theorem Rep.dNon (r : Rep K h M d v) (e : deref h d = .non) : v = .non := by
  rw [r.notLst (by intro ds z; rw [e] at z; cases z)] at e; subst e; unfold Rep at r; exact r
theorem Rep.dTup (r : Rep K h M d v) (e : deref h d = .tup ds) : ∃ a vs, v = .ref a ∧ h a = none ∧ M a = some (.tup vs) ∧ RepL K h M ds vs := by
  rw [r.notLst (by intro ds z; rw [e] at z; cases z)] at e; subst e; unfold Rep at r; exact r
theorem Rep.dFrz (r : Rep K h M d v) (e : deref h d = .frz ds) : ∃ a vs, v = .ref a ∧ FrzL K h M a vs ∧ RepL K h M ds vs := by
  rw [r.notLst (by intro ds z; rw [e] at z; cases z)] at e; subst e; unfold Rep at r; exact r
theorem Imp.val (im : Imp K h M H Q3 Q) (ab : Ab K h M H) (q : Q3 d h) (r : Rep K h M d v) : Q v H := im d h v M H q ab (Sy.refl h M H) r
theorem Imp.int {i : Int} (im : Imp K h M H Q3 Q) (ab : Ab K h M H) (q : Q3 (.int i) h) : Q (.int i) H := im.val ab q (by unfold Rep; rfl)
theorem Imp.bl {i : Bool} (im : Imp K h M H Q3 Q) (ab : Ab K h M H) (q : Q3 (.bl i) h) : Q (.bl i) H := im.val ab q (by unfold Rep; rfl)
theorem Imp.str {i : Str} (im : Imp K h M H Q3 Q) (ab : Ab K h M H) (q : Q3 (.str i) h) : Q (.str i) H := im.val ab q (by unfold Rep; rfl)
theorem Imp.tup (im : Imp K h M H Q3 Q) (ab : Ab K h M H) (q : Q3 (.tup ds) h) (r : RepL K h M ds vs) (p : Addr) (hp : H p = none) : Q (.ref p) (upd H p (.tup vs)) :=
  im (.tup ds) h (.ref p) _ _ q (ab.new hp) (sy_new ab hp) (by unfold Rep; exact ⟨p, vs, rfl, ab.free hp, upd_same, r.stay (sy_new ab hp).st⟩)
theorem Imp.lst (im : Imp K h M H Q3 Q) (ab : Ab K h M H) (q : Q3 (.lst ds) h) (r : RepL K h M ds vs) (p : Addr) (hp : H p = none) : Q (.ref p) (upd H p (.lst vs)) :=
  im (.lst ds) h (.ref p) _ _ q (ab.new hp) (sy_new ab hp) (by unfold Rep; exact ⟨p, vs, rfl, ab.free hp, upd_same, r.stay (sy_new ab hp).st⟩)
theorem RepL.app {es : List D} {ws : List V} (r2 : RepL K h M es ws) : ∀ {ds : List D} {vs : List V}, RepL K h M ds vs → RepL K h M (ds ++ es) (vs ++ ws)
  | [], vs, r => by unfold RepL at r; subst r; exact r2
  | d :: ds, vs, r => by
    unfold RepL at r
    obtain ⟨v, t, e, a, b⟩ := r
    subst e
    show RepL K h M (d :: (ds ++ es)) (v :: (t ++ ws))
    unfold RepL
    exact ⟨v, t ++ ws, rfl, a, RepL.app r2 b⟩
theorem RepL.nil_iff (r : RepL K h M ds vs) : vs = [] ↔ ds = [] := by
  have := r.len
  constructor
  · intro e; rw [e] at this; exact List.length_eq_zero_iff.mp this.symm
  · intro e; rw [e] at this; exact List.length_eq_zero_iff.mp this
theorem RepL.drop : ∀ (n : Nat) {ds : List D} {vs : List V}, RepL K h M ds vs → RepL K h M (ds.drop n) (vs.drop n)
  | 0, _, _, r => r
  | n + 1, [], vs, r => by unfold RepL at r; subst r; show RepL K h M [] []; unfold RepL; rfl
  | n + 1, d :: ds, vs, r => by
    unfold RepL at r
    obtain ⟨v, t, e, a, b⟩ := r
    subst e
    exact RepL.drop n b
theorem RepL.take : ∀ (n : Nat) {ds : List D} {vs : List V}, RepL K h M ds vs → RepL K h M (ds.take n) (vs.take n)
  | 0, _, _, r => by rw [List.take_zero, List.take_zero]; unfold RepL; rfl
  | n + 1, [], vs, r => by unfold RepL at r; subst r; unfold RepL; rfl
  | n + 1, d :: ds, vs, r => by
    unfold RepL at r
    obtain ⟨v, t, e, a, b⟩ := r
    subst e
    show RepL K h M (d :: ds.take n) (v :: t.take n)
    unfold RepL
    exact ⟨v, t.take n, rfl, a, RepL.take n b⟩
end
/-! operations -/
def addD (x y : D) (h : DH) (Q : QK) : Prop := match deref h x, deref h y with
  | .int i, .int j => Q (.int (i + j)) h
  | .tup a, .tup b => a.length + b.length ≤ sizeLine ∧ Q (.tup (a ++ b)) h
  | .lst a, .lst b => a.length + b.length ≤ sizeLine ∧ Q (.lst (a ++ b)) h
  | .str a, .str b => a.length + b.length ≤ sizeLine ∧ Q (.str (a ++ b)) h
  | _, _ => False
def intD (C : Int → Int → Prop) (f : Int → Int → D) (x y : D) (h : DH) (Q : QK) : Prop := match x, y with
  | .int i, .int j => C i j ∧ Q (f i j) h
  | _, _ => False
def intD0 (f : Int → Int → D) (x y : D) (h : DH) (Q : QK) : Prop := match x, y with
  | .int i, .int j => Q (f i j) h
  | _, _ => False
abbrev subD := intD0 fun i j => .int (i - j)
abbrev mulD := intD IntMulOk fun i j => .int (i * j)
abbrev fdvD := intD CDivW fun i j => .int (i / j)
abbrev modD := intD (fun _ j => 0 < j) fun i j => .int (i % j)
abbrev powD := intD CPow fun i j => .int (i ^ j.toNat)
abbrev shlD := intD CPow fun i j => .int (i * 2 ^ j.toNat)
abbrev shrD := intD (fun _ j => 0 ≤ j) fun i j => .int (i / 2 ^ j.toNat)
abbrev bandD := intD0 fun i j => .int (Builtin.bitAnd i j)
@[irreducible] def leD : D → D → DH → QK → Prop := intD0 fun i j => .bl (decide (i ≤ j))
@[irreducible] def geD : D → D → DH → QK → Prop := intD0 fun i j => .bl (decide (j ≤ i))
def ints? : List D → Option (List Int)
  | [] => some []
  | .int i :: ds => (ints? ds).map (i :: ·)
  | _ => none
theorem ints_map (ns : List Int) : ints? (ns.map D.int) = some ns := by
  induction ns with
  | nil => rfl
  | cons n ns ih => show (ints? (ns.map D.int)).map (n :: ·) = _; rw [ih]; rfl
theorem ints_eq : ∀ {ds : List D} {ns : List Int}, ints? ds = some ns → ds = ns.map D.int
  | [], ns, e => by cases e; rfl
  | .int i :: ds, ns, e => by
    have e : (ints? ds).map (i :: ·) = some ns := e
    obtain ⟨ms, e1, e2⟩ := Option.map_eq_some_iff.mp e
    subst e2
    rw [ints_eq e1]; rfl
  | .non :: _, _, e => by cases e
  | .bl _ :: _, _, e => by cases e
  | .str _ :: _, _, e => by cases e
  | .tup _ :: _, _, e => by cases e
  | .lst _ :: _, _, e => by cases e
  | .frz _ :: _, _, e => by cases e
  | .ins _ _ :: _, _, e => by cases e
  | .dic _ :: _, _, e => by cases e
  | .ref _ :: _, _, e => by cases e
  | .ty _ :: _, _, e => by cases e
theorem RepL.ints {h : DH} {M : Hp} : ∀ {ns : List Int} {vs : List V}, RepL K h M (ns.map D.int) vs → vs = ns.map V.int
  | [], vs, r => by rw [List.map_nil] at r; unfold RepL at r; exact r
  | n :: ns, vs, r => by
    rw [List.map_cons] at r
    unfold RepL at r
    obtain ⟨v, t, e, a, b⟩ := r
    unfold Rep at a
    rw [e, a, RepL.ints b]; rfl
/-- <: numbers, tuples of numbers -/
@[irreducible] def ltD (x y : D) (h : DH) (Q : QK) : Prop := match x, y with
  | .int i, .int j => Q (.bl (decide (i < j))) h
  | .tup a, .tup b => match ints? a, ints? b with
    | some ns, some ms => Q (.bl (HT.lexLt ns ms)) h
    | _, _ => False
  | _, _ => False
@[irreducible] def gtD (x y : D) (h : DH) (Q : QK) : Prop := match x, y with
  | .int i, .int j => Q (.bl (decide (j < i))) h
  | .tup a, .tup b => match ints? a, ints? b with
    | some ns, some ms => Q (.bl (HT.lexLt ms ns)) h
    | _, _ => False
  | _, _ => False
mutual
def toPy : D → Option PyData
  | .non => some .none
  | .bl b => some (.bool b)
  | .int i => some (.int i)
  | .str x => some (.str x)
  | .tup ds => (toPyL ds).map .tuple
  | .lst ds => (toPyL ds).map .list
  | _ => none
def toPyL : List D → Option (List PyData)
  | [] => some []
  | d :: ds => match toPy d, toPyL ds with
    | some x, some xs => some (x :: xs)
    | _, _ => none
end
mutual
theorem Rep.dp {K : PySem.W.Frag} {h : DH} {M H : Hp} (ab : Ab K h M H) : ∀ (d : D) (v : V) (p : PyData), Rep K h M d v → toPy d = some p → Dp K H v p
  | .non, v, p, r, e => by unfold Rep at r; unfold toPy at e; cases e; subst r; exact .non
  | .bl b, v, p, r, e => by unfold Rep at r; unfold toPy at e; cases e; subst r; exact .bl b
  | .int b, v, p, r, e => by unfold Rep at r; unfold toPy at e; cases e; subst r; exact .int b
  | .str b, v, p, r, e => by unfold Rep at r; unfold toPy at e; cases e; subst r; exact .str b
  | .tup ds, v, p, r, e => by
    unfold Rep at r; unfold toPy at e
    obtain ⟨a, vs, e1, _, e2, rl⟩ := r
    obtain ⟨xs, e3, e4⟩ := Option.map_eq_some_iff.mp e
    subst e1; subst e4
    exact .tup (SqT.of (ab.sub _ _ e2)) (RepL.dp ab ds vs xs rl e3)
  | .lst ds, v, p, r, e => by
    unfold Rep at r; unfold toPy at e
    obtain ⟨a, vs, e1, _, e2, rl⟩ := r
    obtain ⟨xs, e3, e4⟩ := Option.map_eq_some_iff.mp e
    subst e1; subst e4
    exact .lst (SqL.of (ab.sub _ _ e2)) (RepL.dp ab ds vs xs rl e3)
  | .frz _, _, _, _, e => by unfold toPy at e; cases e
  | .ins _ _, _, _, _, e => by unfold toPy at e; cases e
  | .dic _, _, _, _, e => by unfold toPy at e; cases e
  | .ref _, _, _, _, e => by unfold toPy at e; cases e
  | .ty _, _, _, _, e => by unfold toPy at e; cases e
theorem RepL.dp {K : PySem.W.Frag} {h : DH} {M H : Hp} (ab : Ab K h M H) : ∀ (ds : List D) (vs : List V) (ps : List PyData), RepL K h M ds vs → toPyL ds = some ps → DpAll K H vs ps
  | [], vs, ps, r, e => by unfold RepL at r; unfold toPyL at e; cases e; subst r; exact .nil
  | d :: ds, vs, ps, r, e => by
    unfold RepL at r; unfold toPyL at e
    obtain ⟨v, t, e1, a, b⟩ := r
    subst e1
    split at e
    · rename_i x xs e2 e3
      cases e
      exact .cons (Rep.dp ab d v x a e2) (RepL.dp ab ds t xs b e3)
    · cases e
end
/-- a tracked list read as it stands -/
theorem Rep.dpD {K : PySem.W.Frag} {h : DH} {M H : Hp} (ab : Ab K h M H) {d : D} {v : V} {p : PyData} (r : Rep K h M d v) (e : toPy (deref h d) = some p) : Dp K H v p := by
  by_cases hl : ∃ ds, deref h d = .lst ds
  · obtain ⟨ds, e1⟩ := hl
    obtain ⟨a, vs, e2, _, e3, rl⟩ := r.toLst ab e1
    rw [e1] at e
    unfold toPy at e
    obtain ⟨xs, e4, e5⟩ := Option.map_eq_some_iff.mp e
    subst e2; subst e5
    exact .lst (SqL.of e3) (RepL.dp ab ds vs xs rl e4)
  · rw [r.notLst (fun ds z => hl ⟨ds, z⟩)] at e
    exact Rep.dp ab d v p r e
@[irreducible] def eqD (x y : D) (h : DH) (Q : QK) : Prop := match toPy (deref h x), toPy (deref h y) with
  | some a, some b => (SeqAt.shaped a = true ∧ SeqAt.shaped b = true) ∧ Q (.bl (PyData.eqv a b)) h
  | _, _ => False
@[irreducible] def neD (x y : D) (h : DH) (Q : QK) : Prop := match toPy (deref h x), toPy (deref h y) with
  | some a, some b => (SeqAt.shaped a = true ∧ SeqAt.shaped b = true) ∧ Q (.bl (!PyData.eqv a b)) h
  | _, _ => False
def isD (x y : D) (h : DH) (Q : QK) : Prop := match x, y with
  | .bl a, .bl b => Q (.bl (decide (a = b))) h
  | x, .non => Q (.bl (match x with | .non => true | _ => false)) h
  | _, _ => False
def isnD (x y : D) (h : DH) (Q : QK) : Prop := match x, y with
  | .bl a, .bl b => Q (.bl (!decide (a = b))) h
  | x, .non => Q (.bl (match x with | .non => false | _ => true)) h
  | _, _ => False
section
variable {X : Cx}
theorem o_add : OpR X (binaryOp .Add) (r2 X.K addD) := by
  intro pins s σ H v w u u' Q I rv rw' ⟨x, y, h, M, Q3, ab, rx, ry, q, im⟩
  unfold addD at q
  split at q
  · rename_i i j e1 e2
    rw [rx.dInt e1] at rv; rw [ry.dInt e2] at rw'
    exact op_add pins s σ H _ _ u u' Q I rv rw' ⟨i, j, rfl, rfl, im.int ab q⟩
  · rename_i a b e1 e2
    obtain ⟨p1, vs1, ev1, n1, m1, l1⟩ := rx.dTup e1
    obtain ⟨p2, vs2, ev2, n2, m2, l2⟩ := ry.dTup e2
    rw [ev1] at rv rx; rw [ev2] at rw' ry
    refine op_catA pins s σ H _ _ u u' Q I rv rw' ⟨p1, p2, vs1, vs2, rfl, rfl, SqT.of (ab.sub _ _ m1), SqT.of (ab.sub _ _ m2), by rw [l1.len, l2.len]; exact q.1, fun z => ?_, fun _ z => ?_, fun _ _ p hp => im.tup ab q.2 (RepL.app l2 l1) p hp⟩
    · have ea := l1.nil_iff.mp z
      subst ea
      have q2 : Q3 (.tup b) h := q.2
      exact im.val ab q2 (by unfold Rep; exact ⟨p2, vs2, rfl, n2, m2, l2⟩)
    · have eb := l2.nil_iff.mp z
      subst eb
      have q2 : Q3 (.tup (a ++ [])) h := q.2
      rw [List.append_nil] at q2
      exact im.val ab q2 (by unfold Rep; exact ⟨p1, vs1, rfl, n1, m1, l1⟩)
  · rename_i a b e1 e2
    obtain ⟨p1, vs1, ev1, _, m1, l1⟩ := rx.toLst ab e1
    obtain ⟨p2, vs2, ev2, _, m2, l2⟩ := ry.toLst ab e2
    rw [ev1] at rv; rw [ev2] at rw'
    exact op_cat pins s σ H _ _ u u' Q I rv rw' ⟨p1, p2, vs1, vs2, rfl, rfl, m1, m2, by rw [l1.len, l2.len]; exact q.1, fun p hp => im.lst ab q.2 (RepL.app l2 l1) p hp⟩
  · rename_i a b e1 e2
    rw [rx.dStr e1] at rv; rw [ry.dStr e2] at rw'
    exact op_add_str pins s σ H _ _ u u' Q I rv rw' ⟨a, b, rfl, rfl, q.1, im.str ab q.2⟩
  · exact q.elim
theorem o_int {f : Value → Value → Sem Value} {C : Int → Int → Prop} {g : Int → Int → V} {g3 : Int → Int → D} (k : ∀ i j h M, Rep X.K h M (g3 i j) (g i j)) (ho : OpR X f (rI C g)) : OpR X f (r2 X.K (intD C g3)) := by
  intro pins s σ H v w u u' Q I rv rw' ⟨x, y, h, M, Q3, ab, rx, ry, q, im⟩
  unfold intD at q
  split at q
  · rename_i i j
    unfold Rep at rx ry
    rw [rx] at rv; rw [ry] at rw'
    exact ho pins s σ H _ _ u u' Q I rv rw' ⟨i, j, rfl, rfl, q.1, im.val ab q.2 (k i j h M)⟩
  · exact q.elim
theorem o_int0 {f : Value → Value → Sem Value} {g : Int → Int → V} {g3 : Int → Int → D} (k : ∀ i j h M, Rep X.K h M (g3 i j) (g i j)) (ho : OpR X f (rI0 g)) : OpR X f (r2 X.K (intD0 g3)) := by
  intro pins s σ H v w u u' Q I rv rw' ⟨x, y, h, M, Q3, ab, rx, ry, q, im⟩
  unfold intD0 at q
  split at q
  · rename_i i j
    unfold Rep at rx ry
    rw [rx] at rv; rw [ry] at rw'
    exact ho pins s σ H _ _ u u' Q I rv rw' ⟨i, j, rfl, rfl, im.val ab q (k i j h M)⟩
  · exact q.elim
theorem repI {g : Int → Int → Int} : ∀ i j h M, Rep K h M (.int (g i j)) (.int (g i j)) := fun _ _ _ _ => by unfold Rep; rfl
theorem repB {g : Int → Int → Bool} : ∀ i j h M, Rep K h M (.bl (g i j)) (.bl (g i j)) := fun _ _ _ _ => by unfold Rep; rfl
theorem o_sub : OpR X (binaryOp .Sub) (r2 X.K subD) := o_int0 repI op_sub
theorem op_mulX : OpR X (binaryOp .Mult) (rI IntMulOk fun i j => .int (i * j)) := opI fun _ _ _ _ _ _ _ hc q => mul_int q hc
theorem iop_mulX : OpR X (inplaceOp .Mult) (rI IntMulOk fun i j => .int (i * j)) := opI fun _ _ _ _ _ _ _ hc q => imul_int q hc
theorem o_mul : OpR X (binaryOp .Mult) (r2 X.K mulD) := o_int repI op_mulX
theorem o_fdv : OpR X (binaryOp .FloorDiv) (r2 X.K fdvD) := o_int repI op_fdivW
theorem o_mod : OpR X (binaryOp .Mod) (r2 X.K modD) := o_int repI op_mod
theorem o_pow : OpR X (binaryOp .Pow) (r2 X.K powD) := o_int repI op_pow
theorem o_shl : OpR X (binaryOp .LShift) (r2 X.K shlD) := o_int repI op_shl
theorem o_shr : OpR X (binaryOp .RShift) (r2 X.K shrD) := o_int repI op_shr
theorem o_band : OpR X (binaryOp .BitAnd) (r2 X.K bandD) := o_int0 repI op_and
theorem o_le : OpR X (compareOp .LtE) (r2 X.K leD) := by unfold leD; exact o_int0 repB op_le
theorem o_ge : OpR X (compareOp .GtE) (r2 X.K geD) := by unfold geD; exact o_int0 repB op_ge
theorem lexAt_lt : ∀ (m i : Nat) (ns ms : List Int), m = min (ns.length - i) (ms.length - i) → i ≤ ns.length → i ≤ ms.length →
    Ob.lexAt (fun j => decide (ns.getD j 0 = ms.getD j 0)) (fun j => decide (ms.getD j 0 < ns.getD j 0)) (decide (ms.length < ns.length)) i m = HT.lexLt (ms.drop i) (ns.drop i)
  | 0, i, ns, ms, hm, h1, h2 => by
    show decide (ms.length < ns.length) = _
    by_cases hn : i < ns.length
    · have e : i = ms.length := by omega
      rw [List.drop_of_length_le (l := ms) (by omega), List.drop_eq_getElem_cons hn, decide_eq_true (by omega)]
      rfl
    · rw [List.drop_of_length_le (l := ns) (by omega), decide_eq_false (by omega)]
      cases ms.drop i <;> rfl
  | m + 1, i, ns, ms, hm, h1, h2 => by
    have hn : i < ns.length := by omega
    have hs : i < ms.length := by omega
    rw [Ob.lexAt_succ, lexAt_lt m (i + 1) ns ms (by omega) (by omega) (by omega), List.drop_eq_getElem_cons hn, List.drop_eq_getElem_cons hs, HT.lexLt_cons]
    have g1 : ns.getD i 0 = ns[i] := by rw [List.getD_eq_getElem?_getD, List.getElem?_eq_getElem hn]; rfl
    have g2 : ms.getD i 0 = ms[i] := by rw [List.getD_eq_getElem?_getD, List.getElem?_eq_getElem hs]; rfl
    simp only [g1, g2]
    by_cases e : ns[i] = ms[i]
    · rw [if_pos (decide_eq_true e), if_pos e.symm]
    · rw [if_neg (by rw [decide_eq_false e]; exact Bool.false_ne_true), if_neg (fun z => e z.symm)]
/-- tuples of ints: x > y -/
theorem op_gtT (hu : X.A.units < cLine) : OpR X (compareOp .Gt) (fun x y H Q => ∃ (a b : Addr) (ns ms : List Int), x = .ref a ∧ y = .ref b ∧ SqT X.K H a (ns.map V.int) ∧ SqT X.K H b (ms.map V.int) ∧ Q (.bl (HT.lexLt ms ns)) H) := by
  intro pins s σ H x y v u Q I rx ry h
  obtain ⟨a, b, ns, ms, rfl, rfl, ha, hb, q⟩ := h
  cases rx
  cases ry
  obtain ⟨ws, r1, p1, _⟩ := I.tuple ha
  obtain ⟨zs, r2, p2, _⟩ := I.tuple hb
  have j1 : IntsAre ws ns := Vals.ints r1
  have j2 : IntsAre zs ms := Vals.ints r2
  have l1 : ws.toArray.size = ns.length := by rw [List.size_toArray]; exact j1.length
  have l2 : zs.toArray.size = ms.length := by rw [List.size_toArray]; exact j2.length
  have g1 : ∀ j (h1 : j < ws.toArray.size), ∃ t, ws.toArray[j] = .int (ns.getD j 0) t := fun j h1 => PyProof.Rows.IntsAre.int_at j1 _ _ (by simp at h1; simp [h1])
  have g2 : ∀ j (h1 : j < zs.toArray.size), ∃ t, zs.toArray[j] = .int (ms.getD j 0) t := fun j h1 => PyProof.Rows.IntsAre.int_at j2 _ _ (by simp at h1; simp [h1])
  have R := Ob.RcOp.tuples_gt (A := X.A) (s := s) (e := fun j => decide (ns.getD j 0 = ms.getD j 0)) (r := fun j => decide (ms.getD j 0 < ns.getD j 0)) p1 p2 hu (fun j h1 h2 => by
    obtain ⟨t, et⟩ := g1 j h1
    obtain ⟨t', et'⟩ := g2 j h2
    rw [et, et']
    have z : (ns.getD j 0 == ms.getD j 0) = decide (ns.getD j 0 = ms.getD j 0) := by
      by_cases q : ns.getD j 0 = ms.getD j 0
      · rw [decide_eq_true q]; exact beq_iff_eq.mpr q
      · rw [decide_eq_false q]; exact beq_eq_false_iff_ne.mpr q
    rw [← z]
    exact SeqAt.EqAt.int_int _ _ _ _) (fun j h1 h2 _ => by
    obtain ⟨t, et⟩ := g1 j h1
    obtain ⟨t', et'⟩ := g2 j h2
    rw [et, et']
    exact Ob.RcOp.gt_int _ _ _ _)
  rw [l1, l2] at R
  have el := lexAt_lt (min ns.length ms.length) 0 ns ms (by simp) (Nat.zero_le _) (Nat.zero_le _)
  rw [List.drop_zero, List.drop_zero] at el
  have z : wpAny (model X.prog X.w) X.A (compareOp .Gt (.ref a) (.ref b)) (EP X pins σ Q) X.xe s := R X.prog X.w X.xe (EP X pins σ Q) ⟨.bl _, H, I, rfl, by rw [← el] at q; exact q⟩
  exact z
theorem o_gt (hu : X.A.units < cLine) : OpR X (compareOp .Gt) (r2 X.K gtD) := by
  intro pins s σ H v w u u' Q I rv rw' ⟨x, y, h, M, Q3, ab, rx, ry, q, im⟩
  unfold gtD at q
  split at q
  · rename_i i j
    unfold Rep at rx ry
    rw [rx] at rv; rw [ry] at rw'
    exact op_gt pins s σ H _ _ u u' Q I rv rw' ⟨i, j, rfl, rfl, im.bl ab q⟩
  · rename_i a b
    split at q
    · rename_i ns ms e1 e2
      unfold Rep at rx ry
      rw [ints_eq e1] at rx; rw [ints_eq e2] at ry
      obtain ⟨p1, vs1, ev1, n1, m1, l1⟩ := rx
      obtain ⟨p2, vs2, ev2, n2, m2, l2⟩ := ry
      rw [ev1] at rv; rw [ev2] at rw'
      rw [l1.ints] at m1; rw [l2.ints] at m2
      exact op_gtT hu pins s σ H _ _ u u' Q I rv rw' ⟨p1, p2, ns, ms, rfl, rfl, SqT.of (ab.sub _ _ m1), SqT.of (ab.sub _ _ m2), im.bl ab q⟩
    · exact q.elim
  · exact q.elim
theorem o_lt (hu : X.A.units < cLine) : OpR X (compareOp .Lt) (r2 X.K ltD) := by
  intro pins s σ H v w u u' Q I rv rw' ⟨x, y, h, M, Q3, ab, rx, ry, q, im⟩
  unfold ltD at q
  split at q
  · rename_i i j
    unfold Rep at rx ry
    rw [rx] at rv; rw [ry] at rw'
    exact op_lt pins s σ H _ _ u u' Q I rv rw' ⟨i, j, rfl, rfl, im.bl ab q⟩
  · rename_i a b
    split at q
    · rename_i ns ms e1 e2
      unfold Rep at rx ry
      rw [ints_eq e1] at rx; rw [ints_eq e2] at ry
      obtain ⟨p1, vs1, ev1, n1, m1, l1⟩ := rx
      obtain ⟨p2, vs2, ev2, n2, m2, l2⟩ := ry
      rw [ev1] at rv; rw [ev2] at rw'
      rw [l1.ints] at m1; rw [l2.ints] at m2
      exact op_ltT hu pins s σ H _ _ u u' Q I rv rw' ⟨p1, p2, ns, ms, rfl, rfl, SqT.of (ab.sub _ _ m1), SqT.of (ab.sub _ _ m2), im.bl ab q⟩
    · exact q.elim
  · exact q.elim
theorem o_eq (hu : X.A.units + 64 < cLine) : OpR X (compareOp .Eq) (r2 X.K eqD) := by
  intro pins s σ H v w u u' Q I rv rw' ⟨x, y, h, M, Q3, ab, rx, ry, q, im⟩
  unfold eqD at q
  split at q
  · rename_i a b e1 e2
    exact op_eqD hu pins s σ H _ _ u u' Q I rv rw' ⟨a, b, rx.dpD ab e1, ry.dpD ab e2, q.1.1, q.1.2, im.bl ab q.2⟩
  · exact q.elim
theorem o_ne (hu : X.A.units + 64 < cLine) : OpR X (compareOp .NotEq) (r2 X.K neD) := by
  intro pins s σ H v w u u' Q I rv rw' ⟨x, y, h, M, Q3, ab, rx, ry, q, im⟩
  unfold neD at q
  split at q
  · rename_i a b e1 e2
    exact op_neD hu pins s σ H _ _ u u' Q I rv rw' ⟨a, b, rx.dpD ab e1, ry.dpD ab e2, q.1.1, q.1.2, im.bl ab q.2⟩
  · exact q.elim
theorem rep_non {h : DH} {M : Hp} : ∀ {x : D} {v : V}, Rep K h M x v → decide (v = .non) = (match x with | .non => true | _ => false)
  | .non, v, r => by unfold Rep at r; subst r; rfl
  | .bl _, v, r => by unfold Rep at r; subst r; rfl
  | .int _, v, r => by unfold Rep at r; subst r; rfl
  | .str _, v, r => by unfold Rep at r; subst r; rfl
  | .tup _, v, r => by unfold Rep at r; obtain ⟨_, _, e, _⟩ := r; subst e; rfl
  | .lst _, v, r => by unfold Rep at r; obtain ⟨_, _, e, _⟩ := r; subst e; rfl
  | .frz _, v, r => by unfold Rep at r; obtain ⟨_, _, e, _⟩ := r; subst e; rfl
  | .dic _, v, r => by unfold Rep at r; obtain ⟨_, _, e, _⟩ := r; subst e; rfl
  | .ins _ _, v, r => by unfold Rep at r; obtain ⟨_, _, _, e, _⟩ := r; subst e; rfl
  | .ref _, v, r => by unfold Rep at r; subst r; rfl
  | .ty _, v, r => by unfold Rep at r; subst r; rfl
theorem o_is : OpR X (compareOp .Is) (r2 X.K isD) := by
  intro pins s σ H v w u u' Q I rv rw' ⟨x, y, h, M, Q3, ab, rx, ry, q, im⟩
  unfold isD at q
  split at q
  · rename_i a b
    unfold Rep at rx ry
    rw [rx] at rv; rw [ry] at rw'
    exact op_is_bl pins s σ H _ _ u u' Q I rv rw' ⟨a, b, rfl, rfl, im.bl ab q⟩
  · have z := rep_non rx
    unfold Rep at ry
    rw [ry] at rw'
    exact op_isN pins s σ H _ _ u u' Q I rv rw' ⟨rfl, by rw [z]; exact im.bl ab q⟩
  · exact q.elim
theorem o_isn : OpR X (compareOp .IsNot) (r2 X.K isnD) := by
  intro pins s σ H v w u u' Q I rv rw' ⟨x, y, h, M, Q3, ab, rx, ry, q, im⟩
  unfold isnD at q
  split at q
  · rename_i a b
    unfold Rep at rx ry
    rw [rx] at rv; rw [ry] at rw'
    exact op_isnot_bl pins s σ H _ _ u u' Q I rv rw' ⟨a, b, rfl, rfl, im.bl ab q⟩
  · have z := rep_non rx
    unfold Rep at ry
    rw [ry] at rw'
    refine op_notN pins s σ H _ _ u u' Q I rv rw' ⟨rfl, ?_⟩
    rw [z]
    cases x <;> exact im.bl ab q
  · exact q.elim
end
end L3

set_option Elab.async false
set_option linter.all false
set_option maxRecDepth 100000
set_option maxHeartbeats 4000000
namespace L3
open PySem PySem.Spec PyProof.Rows L2
variable {K : PySem.W.Frag}
/-! isinstance of built-in classes -/
def tyD (h : DH) : D → Option Ty
  | .non => some .non | .bl _ => some .bl | .int _ => some .int | .str _ => some .str | .tup _ => some .tup | .lst _ => some .lst | .frz _ => some .lst | .dic _ => some .dic
  | .ref p => match h p with
    | some (.lst _) => some .lst
    | some (.dk _) => some .dic
    | some (.dt _) => some .dic
    | _ => none
  | _ => none
def isTy (a b : Ty) : Bool := decide (a = b) || (decide (a = .bl) && decide (b = .int))
theorem kit_isTy (a b : Ty) : kitB a.nm b.nm = some (isTy a b) := by cases a <;> cases b <;> decide +kernel
def isiD (xs : List D) (h : DH) (Q : QK) : Prop := match xs with
  | [x, .ty b] => match tyD h x with
    | some a => Q (.bl (isTy a b)) h
    | none => False
  | _ => False
theorem Rep.ty {K : PySem.W.Frag} {h : DH} {M H : Hp} (ab : Ab K h M H) {d : D} {v : V} {a : Ty} (r : Rep K h M d v) (e : tyD h d = some a) : TyX K H v (.type a.nm) := by
  cases d with
  | non => cases e; unfold Rep at r; subst r; exact .base .non
  | bl b => cases e; unfold Rep at r; subst r; exact .base (.bl b)
  | int b => cases e; unfold Rep at r; subst r; exact .base (.int b)
  | str b => cases e; unfold Rep at r; subst r; exact .base (.str b)
  | tup b => cases e; unfold Rep at r; obtain ⟨p, vs, e1, _, e2, _⟩ := r; subst e1; exact .base (.tup (ab.sub _ _ e2))
  | lst b => cases e; unfold Rep at r; obtain ⟨p, vs, e1, _, e2, _⟩ := r; subst e1; exact .base (.lst (ab.sub _ _ e2))
  | frz b =>
    cases e; unfold Rep at r; obtain ⟨p, vs, e1, e2, _⟩ := r; subst e1
    rcases e2 with ⟨_, o, q⟩ | ⟨o, its, n, q, c, _⟩
    · exact .base (.frz (ab.sub _ _ q))
    · exact .kList q c
  | dic b => cases e; unfold Rep at r; obtain ⟨p, vs, e1, _, e2, _⟩ := r; subst e1; exact .base (.dK (ab.sub _ _ e2))
  | ins _ _ => cases e
  | ty _ => cases e
  | ref p =>
    unfold Rep at r; subst r
    unfold tyD at e
    dsimp only at e
    split at e
    · rename_i ds hp
      cases e
      obtain ⟨u, hu, vs, e2, _⟩ := ab.abs p _ hp
      subst e2
      exact .base (.lst (ab.sub _ _ hu))
    · rename_i ds hp
      cases e
      obtain ⟨u, hu, vs, e2, _⟩ := ab.abs p _ hp
      subst e2
      exact .base (.dK (ab.sub _ _ hu))
    · rename_i ds hp
      cases e
      obtain ⟨u, hu, vs, e2, _⟩ := ab.abs p _ hp
      subst e2
      exact .base (.dT (ab.sub _ _ hu))
    · cases e
section
variable {X : Cx} {E : WX}
theorem c_isi : CallR X (.builtin "isinstance") (rC X.K isiD) := by
  intro pins s σ H vs us Q I rv ⟨xs, h, M, Q3, ab, r, q, im⟩
  unfold isiD at q
  split at q
  · rename_i x b
    obtain ⟨v, w, e1, ra, rb⟩ := r.two
    subst e1
    split at q
    · rename_i a ea
      unfold Rep at rb
      refine call_isi pins s σ H _ us Q I rv ⟨v, w, .type a.nm, .type b.nm, isTy a b, rfl, ?_, ra.ty ab ea, kit_ty (kit_isTy a b), im.bl ab q⟩
      rw [rb]; exact .ty _
    · exact q.elim
  · exact q.elim
/-- a built-in class as a value -/
theorem e_ty {x : Str} {pos : Pos} (t : Ty) (hg : Gl X x) (hm : X.mg x = none) (hv : bootBuiltins x = some (.type t.nm)) (hn : x ≠ "__name__" := by decide) (hd : (x == ("__debug__" : Str)) = false := by decide) : PE X (.Name x pos) (tE X.K E (uC (.ty t))) :=
  pe_weak (pe_bltn (v := .ty t.nm) hg hm hv rfl hn hd) fun _ _ _ h => tC_of (fun _ _ => by unfold Rep; rfl) h
/-! len, all, any, sum, min, max, abs, int -/
@[irreducible] def lenD (xs : List D) (h : DH) (Q : QK) : Prop := match xs with
  | [x] => match deref h x with
    | .tup ds => Q (.int (ds.length : Int)) h
    | .lst ds => Q (.int (ds.length : Int)) h
    | .frz ds => Q (.int (ds.length : Int)) h
    | .str z => z.length ≤ sizeLine ∧ Q (.int (z.length : Int)) h
    | _ => False
  | _ => False
theorem c_len : CallR X (.builtin "len") (rC X.K lenD) := by
  intro pins s σ H vs us Q I rv ⟨xs, h, M, Q3, ab, r, q, im⟩
  unfold lenD at q
  split at q
  · rename_i x
    obtain ⟨v, e1, ra⟩ := r.one
    subst e1
    split at q
    · rename_i ds e
      obtain ⟨p, ws, e2, _, m, l⟩ := ra.dTup e
      subst e2
      exact call_len_seq pins s σ H _ us Q I rv ⟨p, ws, rfl, .inr (SqT.of (ab.sub _ _ m)), by rw [l.len]; exact im.int ab q⟩
    · rename_i ds e
      obtain ⟨p, ws, e2, _, m, l⟩ := ra.toLst ab e
      subst e2
      exact call_len_seq pins s σ H _ us Q I rv ⟨p, ws, rfl, .inl (SqL.of m), by rw [l.len]; exact im.int ab q⟩
    · rename_i ds e
      obtain ⟨p, ws, e2, m, l⟩ := ra.dFrz e
      subst e2
      exact call_len_seq pins s σ H _ us Q I rv ⟨p, ws, rfl, .inl (ab.frz m), by rw [l.len]; exact im.int ab q⟩
    · rename_i z e
      rw [ra.dStr e] at rv
      exact call_len_str pins s σ H _ us Q I rv ⟨z, rfl, q.1, im.int ab q.2⟩
    · exact q.elim
  · exact q.elim
def bls? : List D → Option (List Bool)
  | [] => some []
  | .bl i :: ds => (bls? ds).map (i :: ·)
  | _ => none
theorem bls_map (ns : List Bool) : bls? (ns.map D.bl) = some ns := by
  induction ns with
  | nil => rfl
  | cons n ns ih => show (bls? (ns.map D.bl)).map (n :: ·) = _; rw [ih]; rfl
theorem bls_eq : ∀ {ds : List D} {ns : List Bool}, bls? ds = some ns → ds = ns.map D.bl
  | [], ns, e => by cases e; rfl
  | .bl i :: ds, ns, e => by
    have e : (bls? ds).map (i :: ·) = some ns := e
    obtain ⟨ms, e1, e2⟩ := Option.map_eq_some_iff.mp e
    subst e2
    rw [bls_eq e1]; rfl
  | .non :: _, _, e => by cases e
  | .int _ :: _, _, e => by cases e
  | .str _ :: _, _, e => by cases e
  | .tup _ :: _, _, e => by cases e
  | .lst _ :: _, _, e => by cases e
  | .frz _ :: _, _, e => by cases e
  | .ins _ _ :: _, _, e => by cases e
  | .dic _ :: _, _, e => by cases e
  | .ref _ :: _, _, e => by cases e
  | .ty _ :: _, _, e => by cases e
theorem RepL.bls {h : DH} {M : Hp} : ∀ {ns : List Bool} {vs : List V}, RepL K h M (ns.map D.bl) vs → vs = ns.map V.bl
  | [], vs, r => by rw [List.map_nil] at r; unfold RepL at r; exact r
  | n :: ns, vs, r => by
    rw [List.map_cons] at r
    unfold RepL at r
    obtain ⟨v, t, e, a, b⟩ := r
    unfold Rep at a
    rw [e, a, RepL.bls b]; rfl
@[irreducible] def blsD (f : List Bool → Bool) (xs : List D) (h : DH) (Q : QK) : Prop := match xs with
  | [x] => match deref h x with
    | .lst ds => match bls? ds with
      | some bs => Q (.bl (f bs)) h
      | none => False
    | _ => False
  | _ => False
abbrev allD := blsD fun bs => bs.all id
abbrev anyD := blsD fun bs => bs.any id
theorem c_bls {id : String} {f : List Bool → Bool} (hc : CallR X (.builtin id) (fun vs H Q => ∃ (a : Addr) (bs : List Bool), vs = [V.ref a] ∧ SqL X.K H a (bs.map V.bl) ∧ Q (.bl (f bs)) H)) : CallR X (.builtin id) (rC X.K (blsD f)) := by
  intro pins s σ H vs us Q I rv ⟨xs, h, M, Q3, ab, r, q, im⟩
  unfold blsD at q
  split at q
  · rename_i x
    obtain ⟨v, e1, ra⟩ := r.one
    subst e1
    split at q
    · rename_i ds e
      split at q
      · rename_i bs eb
        obtain ⟨p, ws, e2, _, m, l⟩ := ra.toLst ab e
        rw [bls_eq eb] at l
        rw [l.bls] at m
        subst e2
        exact hc pins s σ H _ us Q I rv ⟨p, bs, rfl, SqL.of m, im.bl ab q⟩
      · exact q.elim
    · exact q.elim
  · exact q.elim
theorem c_all (hc : X.calm = true := by rfl) : CallR X (.builtin "all") (rC X.K allD) := c_bls (cr_all hc)
theorem c_any (hc : X.calm = true := by rfl) : CallR X (.builtin "any") (rC X.K anyD) := c_bls (cr_any hc)
def sumD (xs : List D) (h : DH) (Q : QK) : Prop := match xs with
  | [x] => match deref h x with
    | .lst ds => match ints? ds with
      | some ns => Q (.int ns.sum) h
      | none => False
    | _ => False
  | _ => False
theorem c_sum (hc : X.calm = true := by rfl) : CallR X (.builtin "sum") (rC X.K sumD) := by
  intro pins s σ H vs us Q I rv ⟨xs, h, M, Q3, ab, r, q, im⟩
  unfold sumD at q
  split at q
  · rename_i x
    obtain ⟨v, e1, ra⟩ := r.one
    subst e1
    split at q
    · rename_i ds e
      split at q
      · rename_i bs eb
        obtain ⟨p, ws, e2, _, m, l⟩ := ra.toLst ab e
        rw [ints_eq eb] at l
        rw [l.ints] at m
        subst e2
        exact cr_sum hc pins s σ H _ us Q I rv ⟨p, bs, rfl, SqL.of m, im.int ab q⟩
      · exact q.elim
    · exact q.elim
  · exact q.elim
/-- max, min of two numbers; of a list or .. of numbers (the answer by its properties) -/
def maxD (xs : List D) (h : DH) (Q : QK) : Prop := match xs with
  | [.int i, .int j] => Q (.int (if j > i then j else i)) h
  | _ => False
def minD (xs : List D) (h : DH) (Q : QK) : Prop := match xs with
  | [.int i, .int j] => Q (.int (if j < i then j else i)) h
  | _ => False
theorem c_max (hc : X.calm = true := by rfl) : CallR X (.builtin "max") (rC X.K maxD) := by
  intro pins s σ H vs us Q I rv ⟨xs, h, M, Q3, ab, r, q, im⟩
  unfold maxD at q
  split at q
  · rename_i i j
    obtain ⟨v, w, e1, ra, rb⟩ := r.two
    unfold Rep at ra rb
    subst e1; subst ra; subst rb
    exact call_max2 hc pins s σ H _ us Q I rv ⟨i, j, rfl, im.int ab q⟩
  · exact q.elim
theorem c_min (hc : X.calm = true := by rfl) : CallR X (.builtin "min") (rC X.K minD) := by
  intro pins s σ H vs us Q I rv ⟨xs, h, M, Q3, ab, r, q, im⟩
  unfold minD at q
  split at q
  · rename_i i j
    obtain ⟨v, w, e1, ra, rb⟩ := r.two
    unfold Rep at ra rb
    subst e1; subst ra; subst rb
    exact call_min2 hc pins s σ H _ us Q I rv ⟨i, j, rfl, im.int ab q⟩
  · exact q.elim
def absD (xs : List D) (h : DH) (Q : QK) : Prop := match xs with
  | [.int i] => Q (.int (if i < 0 then -i else i)) h
  | _ => False
theorem c_abs : CallR X (.builtin "abs") (rC X.K absD) := by
  intro pins s σ H vs us Q I rv ⟨xs, h, M, Q3, ab, r, q, im⟩
  unfold absD at q
  split at q
  · rename_i i
    obtain ⟨v, e1, ra⟩ := r.one
    unfold Rep at ra
    subst e1; subst ra
    exact call_abs pins s σ H _ us Q I rv ⟨i, rfl, im.int ab q⟩
  · exact q.elim
def ofIntD (xs : List D) (h : DH) (Q : QK) : Prop := match xs with
  | [.int i] => Q (.int i) h
  | [.bl b] => Q (.int (if b then 1 else 0)) h
  | _ => False
theorem c_int : CallR X (.type "int") (rC X.K ofIntD) := by
  intro pins s σ H vs us Q I rv ⟨xs, h, M, Q3, ab, r, q, im⟩
  unfold ofIntD at q
  split at q
  · rename_i i
    obtain ⟨v, e1, ra⟩ := r.one
    unfold Rep at ra
    subst e1; subst ra
    exact call_int1 pins s σ H _ us Q I rv (.inl ⟨i, rfl, im.int ab q⟩)
  · rename_i i
    obtain ⟨v, e1, ra⟩ := r.one
    unfold Rep at ra
    subst e1; subst ra
    exact call_int1 pins s σ H _ us Q I rv (.inr ⟨i, rfl, im.int ab q⟩)
  · exact q.elim
/-- list(x) (new), tuple(x) -/
@[irreducible] def tupD (xs : List D) (h : DH) (Q : QK) : Prop := match xs with
  | [x] => match deref h x with
    | .tup ds => Q (.tup ds) h
    | .lst ds => Q (.tup ds) h
    | .frz ds => Q (.tup ds) h
    | _ => False
  | _ => False
theorem c_tup : CallR X (.type "tuple") (rC X.K tupD) := by
  intro pins s σ H vs us Q I rv ⟨xs, h, M, Q3, ab, r, q, im⟩
  unfold tupD at q
  split at q
  · rename_i x
    obtain ⟨v, e1, ra⟩ := r.one
    subst e1
    split at q
    · rename_i ds e
      obtain ⟨p, ws, e2, n, m, l⟩ := ra.dTup e
      subst e2
      exact call_tuple_of pins s σ H _ us Q I rv ⟨p, ws, rfl, .inr ⟨SqT.of (ab.sub _ _ m), im.val ab q (by unfold Rep; exact ⟨p, ws, rfl, n, m, l⟩)⟩⟩
    · rename_i ds e
      obtain ⟨p, ws, e2, _, m, l⟩ := ra.toLst ab e
      subst e2
      exact call_tuple_of pins s σ H _ us Q I rv ⟨p, ws, rfl, .inl ⟨SqL.of m, fun t ht => im.tup ab q l t ht⟩⟩
    · rename_i ds e
      obtain ⟨p, ws, e2, m, l⟩ := ra.dFrz e
      subst e2
      exact call_tuple_of pins s σ H _ us Q I rv ⟨p, ws, rfl, .inl ⟨ab.frz m, fun t ht => im.tup ab q l t ht⟩⟩
    · exact q.elim
  · exact q.elim
/-- calls that make a new list -/
def rCF (K : PySem.W.Frag) (f : List D → DH → (List D → DH → Prop) → Prop) : List V → Hp → VK → Prop := fun vs H Q => ∃ xs h M Q3, Ab K h M H ∧ RepL K h M xs vs ∧ f xs h Q3 ∧ ImpF K h M H Q3 Q
def fCB (f : List D → DH → (List D → DH → Prop) → Prop) (a : UA) : UA := fun ρ h Q E => a ρ h (fun xs h1 => f xs h1 Q) E
theorem ImpF.stay {h h1 : DH} {M M1 H H1 : Hp} {Q3 : List D → DH → Prop} {Q : VK} (i : ImpF K h M H Q3 Q) (s : Sy h M H h1 M1 H1) : ImpF K h1 M1 H1 Q3 Q := fun ds h' p vs M' H' q x y e n e2 r => i ds h' p vs M' H' q x (s.trans y) (s.dom p e) n e2 r
theorem tCF_of {f : List D → DH → (List D → DH → Prop) → Prop} {ur : UA} {σ : L2.St} {H : Hp} {Q : VK} (h : tF X.K E (fCB f ur) σ H Q) : tCB (rCF X.K f) (tA X.K E ur) σ H Q := by
  obtain ⟨ρ, h, M, Q3, E3, ea, ha, q, im, ie⟩ := h
  refine ⟨ρ, h, M, _, E3, ea, ha, q, fun xs h1 vs M1 H1 q1 a1 s1 r1 => ?_, ie⟩
  exact ⟨xs, h1, M1, Q3, a1, r1, q1, im.stay s1⟩
variable {e : Expr} {es : List Expr} {pos : Pos}
theorem f_ct {x : Str} {p : Pos} {f : List D → DH → (List D → DH → Prop) → Prop} {ur : UA} {T : String} (hc : CallR X (.type T) (rCF X.K f)) (hg : Gl X x) (hm : X.mg x = none) (hv : bootBuiltins x = some (.type T)) (ha : PA X (e :: es) (tA X.K E ur)) (hn : x ≠ "__name__" := by decide) (hdb : (x == ("__debug__" : Str)) = false := by decide)
    (he : starEach (e :: es) X.env = (false, eval e X.env) :: starEach es X.env := by rfl) (hpl : (backTo pos (starEach es X.env)).any (·.1) = false := by rfl) : PE X (.Call (.Name x p) (e :: es) [] pos) (tF X.K E (fCB f ur)) := pe_weak (pe_callTy hc hg hm hv ha hn hdb he hpl) fun _ _ _ h => tCF_of h
theorem f_cb {x : Str} {p : Pos} {f : List D → DH → (List D → DH → Prop) → Prop} {ur : UA} {id : String} (hc : CallR X (.builtin id) (rCF X.K f)) (hg : Gl X x) (hm : X.mg x = none) (hv : bootBuiltins x = some (.builtin id)) (ha : PA X (e :: es) (tA X.K E ur)) (hn : x ≠ "__name__" := by decide) (hdb : (x == ("__debug__" : Str)) = false := by decide)
    (he : starEach (e :: es) X.env = (false, eval e X.env) :: starEach es X.env := by rfl) (hpl : (backTo pos (starEach es X.env)).any (·.1) = false := by rfl) : PE X (.Call (.Name x p) (e :: es) [] pos) (tF X.K E (fCB f ur)) := pe_weak (pe_callB hc hg hm hv ha hn hdb he hpl) fun _ _ _ h => tCF_of h
theorem ImpF.new {h : DH} {M H : Hp} {Q3 : List D → DH → Prop} {Q : VK} {ds : List D} {vs : List V} (im : ImpF K h M H Q3 Q) (ab : Ab K h M H) (q : Q3 ds h) (r : RepL K h M ds vs) (p : Addr) (hp : H p = none) : Q (.ref p) (upd H p (.lst vs)) :=
  im ds h p vs M _ q (ab.hide hp) (sy_hide hp) hp (ab.freeM hp) upd_same r
def lstF (xs : List D) (h : DH) (Q : List D → DH → Prop) : Prop := match xs with
  | [x] => match deref h x with
    | .tup ds => Q ds h
    | .lst ds => Q ds h
    | .frz ds => Q ds h
    | _ => False
  | _ => False
theorem c_lst : CallR X (.type "list") (rCF X.K lstF) := by
  intro pins s σ H vs us Q I rv ⟨xs, h, M, Q3, ab, r, q, im⟩
  unfold lstF at q
  split at q
  · rename_i x
    obtain ⟨v, e1, ra⟩ := r.one
    subst e1
    split at q
    · rename_i ds e
      obtain ⟨p, ws, e2, n, m, l⟩ := ra.dTup e
      subst e2
      exact call_list_of pins s σ H _ us Q I rv ⟨p, ws, rfl, .inr (SqT.of (ab.sub _ _ m)), fun t ht => im.new ab q l t ht⟩
    · rename_i ds e
      obtain ⟨p, ws, e2, _, m, l⟩ := ra.toLst ab e
      subst e2
      exact call_list_of pins s σ H _ us Q I rv ⟨p, ws, rfl, .inl (SqL.of m), fun t ht => im.new ab q l t ht⟩
    · rename_i ds e
      obtain ⟨p, ws, e2, m, l⟩ := ra.dFrz e
      subst e2
      exact call_list_of pins s σ H _ us Q I rv ⟨p, ws, rfl, .inl (ab.frz m), fun t ht => im.new ab q l t ht⟩
    · exact q.elim
  · exact q.elim
/-! list(range(..)), tuple(range(..)) -/
def rgD (a b : Int) : List D := (List.range (b - a).toNat).map fun i : Nat => D.int (a + (i : Int))
theorem rep_rg {h : DH} {M : Hp} (a b : Int) : RepL K h M (rgD a b) (rgV a b) := by
  refine RepL.of_get (by unfold rgD; rw [rgV_length, List.length_map, List.length_range]) fun i d v e1 e2 => ?_
  unfold rgD at e1; unfold rgV at e2
  rw [List.getElem?_map] at e1 e2
  cases hi : (List.range (b - a).toNat)[i]? with
  | none => rw [hi] at e1; cases e1
  | some k => rw [hi] at e1 e2; cases e1; cases e2; unfold Rep; rfl
def fRg1 (a : U) : UA := fun ρ h Q E => a ρ h (fun x h1 => match x with | .int n => RgOk 0 n ∧ Q (rgD 0 n) h1 | _ => False) E
def fRg2 (a b : U) : UA := fun ρ h Q E => a ρ h (fun x h1 => b ρ h1 (fun y h2 => match x, y with | .int m, .int n => RgOk m n ∧ Q (rgD m n) h2 | _, _ => False) E) E
def tR (K : PySem.W.Frag) (E : WX) (u : DSt → DH → (Int → Int → DH → Prop) → EK → Prop) : L2.St → Hp → (Int → Int → Hp → Prop) → Prop := fun σ H Q => ∃ ρ h M Q3 E3, EAbs K ρ h σ M ∧ Ab K h M H ∧ u ρ h Q3 E3 ∧ (∀ a b h' M' H', Q3 a b h' → Ab K h' M' H' → Sy h M H h' M' H' → Q a b H') ∧ ImpE K h M H E3 E
theorem tLstRg1 {ua : U} {σ : L2.St} {H : Hp} {Q : VK} (h : tF X.K E (fRg1 ua) σ H Q) : tLstRg (tRg1 (tE X.K E ua)) σ H Q := by
  obtain ⟨ρ, h, M, Q3, E3, ea, ha, q, im, ie⟩ := h
  refine ⟨ρ, h, M, _, E3, ea, ha, q, fun x h1 v M1 H1 q1 a1 s1 r1 => ?_, ie⟩
  cases x with
  | int n =>
    unfold Rep at r1
    exact ⟨n, r1, q1.1, fun p hp => (im.stay s1).new a1 q1.2 (rep_rg 0 n) p hp⟩
  | _ => exact q1.elim
theorem f_rg1 {a : Expr} {ua : U} {p p2 pos pos2 : Pos} (hc : X.calm = true) (hg : Gl X "list") (hm : X.mg "list" = none) (hg2 : Gl X "range") (hm2 : X.mg "range" = none) (ha : PE X a (tE X.K E ua)) (na : starEach [a] X.env = (false, eval a X.env) :: starEach [] X.env := by rfl) (nb : starEach [.Call (.Name "range" p2) [a] [] pos2] X.env = (false, eval (.Call (.Name "range" p2) [a] [] pos2) X.env) :: starEach [] X.env := by rfl) :
    PE X (.Call (.Name "list" p) [.Call (.Name "range" p2) [a] [] pos2] [] pos) (tF X.K E (fRg1 ua)) := pe_weak (pe_listRg hc hg hm (prg_1 hg2 hm2 ha na) nb) fun _ _ _ h => tLstRg1 h
def uTRg1 (a : U) : U := fun ρ h Q E => a ρ h (fun x h1 => match x with | .int n => RgOk 0 n ∧ Q (.tup (rgD 0 n)) h1 | _ => False) E
theorem e_trg1 {a : Expr} {ua : U} {p p2 pos pos2 : Pos} (hc : X.calm = true) (hg : Gl X "tuple") (hm : X.mg "tuple" = none) (hg2 : Gl X "range") (hm2 : X.mg "range" = none) (ha : PE X a (tE X.K E ua)) (na : starEach [a] X.env = (false, eval a X.env) :: starEach [] X.env := by rfl) (nb : starEach [.Call (.Name "range" p2) [a] [] pos2] X.env = (false, eval (.Call (.Name "range" p2) [a] [] pos2) X.env) :: starEach [] X.env := by rfl) :
    PE X (.Call (.Name "tuple" p) [.Call (.Name "range" p2) [a] [] pos2] [] pos) (tE X.K E (uTRg1 ua)) := pe_weak (pe_tupRg hc hg hm (prg_1 hg2 hm2 ha na) nb) fun σ H Q h => by
  obtain ⟨ρ, h, M, Q3, E3, ea, ha, q, im, ie⟩ := h
  refine ⟨ρ, h, M, _, E3, ea, ha, q, fun x h1 v M1 H1 q1 a1 s1 r1 => ?_, ie⟩
  cases x with
  | int n =>
    unfold Rep at r1
    exact ⟨n, r1, q1.1, fun p hp => (im.stay s1).tup a1 q1.2 (rep_rg 0 n) p hp⟩
  | _ => exact q1.elim
end
end L3

set_option Elab.async false
set_option linter.all false
set_option maxRecDepth 100000
set_option maxHeartbeats 4000000
namespace L3
open PySem PySem.Spec PyProof.Rows L2
variable {K : PySem.W.Frag}
/-! tables -/
section
variable {κ : Type} [DecidableEq κ]
def look (kvs : List (κ × D)) (k : κ) : Option D := (kvs.find? fun kv => decide (kv.1 = k)).map (·.2)
def putD (kvs : List (κ × D)) (k : κ) (v : D) : List (κ × D) :=
  if (kvs.any fun kv => decide (kv.1 = k)) = true then kvs.map (fun kv => if kv.1 = k then (kv.1, v) else kv) else kvs ++ [(k, v)]
end
/-- both kinds of tables at once -/
def RepG (K : PySem.W.Frag) {κ : Type} (h : DH) (M : Hp) : List (κ × D) → List (κ × V) → Prop
  | [], vs => vs = []
  | (f, d) :: ds, vs => ∃ v r, vs = (f, v) :: r ∧ Rep K h M d v ∧ RepG K h M ds r
theorem RepK.toG {h : DH} {M : Hp} : ∀ {ds : List (Key × D)} {vs : List (Key × V)}, RepK K h M ds vs ↔ RepG K h M ds vs
  | [], vs => by unfold RepK RepG; exact Iff.rfl
  | (f, d) :: ds, vs => by
    unfold RepK RepG
    constructor
    · rintro ⟨v, r, e, a, b⟩; exact ⟨v, r, e, a, RepK.toG.mp b⟩
    · rintro ⟨v, r, e, a, b⟩; exact ⟨v, r, e, a, RepK.toG.mpr b⟩
theorem RepT.toG {h : DH} {M : Hp} : ∀ {ds : List (List Key × D)} {vs : List (List Key × V)}, RepT K h M ds vs ↔ RepG K h M ds vs
  | [], vs => by unfold RepT RepG; exact Iff.rfl
  | (f, d) :: ds, vs => by
    unfold RepT RepG
    constructor
    · rintro ⟨v, r, e, a, b⟩; exact ⟨v, r, e, a, RepT.toG.mp b⟩
    · rintro ⟨v, r, e, a, b⟩; exact ⟨v, r, e, a, RepT.toG.mpr b⟩
def RepOp (K : PySem.W.Frag) (h : DH) (M : Hp) : Option D → Option V → Prop
  | some d, ov => ∃ v, ov = some v ∧ Rep K h M d v
  | none, ov => ov = none
section
variable {κ : Type} [DecidableEq κ] {h : DH} {M : Hp}
theorem RepG.look (k : κ) : ∀ {ds : List (κ × D)} {vs : List (κ × V)}, RepG K h M ds vs → RepOp K h M (L3.look ds k) (valV vs k)
  | [], vs, r => by unfold RepG at r; subst r; rfl
  | (f, d) :: ds, vs, r => by
    unfold RepG at r
    obtain ⟨v, t, e, a, b⟩ := r
    subst e
    by_cases hf : f = k
    · have e1 : L3.look ((f, d) :: ds) k = some d := by simp [L3.look, List.find?_cons, hf]
      rw [e1]
      exact ⟨v, valV_pos hf, a⟩
    · have e1 : L3.look ((f, d) :: ds) k = L3.look ds k := by simp [L3.look, List.find?_cons, hf]
      rw [e1, valV_neg (p := (f, v)) hf]
      exact RepG.look k b
theorem RepG.len : ∀ {ds : List (κ × D)} {vs : List (κ × V)}, RepG K h M ds vs → vs.length = ds.length
  | [], vs, r => by unfold RepG at r; subst r; rfl
  | (f, d) :: ds, vs, r => by
    unfold RepG at r
    obtain ⟨v, t, e, a, b⟩ := r
    subst e
    rw [List.length_cons, List.length_cons, RepG.len b]
theorem RepG.any (k : κ) : ∀ {ds : List (κ × D)} {vs : List (κ × V)}, RepG K h M ds vs → (vs.any fun kv => decide (kv.1 = k)) = ds.any fun kv => decide (kv.1 = k)
  | [], vs, r => by unfold RepG at r; subst r; rfl
  | (f, d) :: ds, vs, r => by
    unfold RepG at r
    obtain ⟨v, t, e, a, b⟩ := r
    subst e
    rw [List.any_cons, List.any_cons, RepG.any k b]
theorem RepG.snoc {k : κ} {d : D} {v : V} (rv : Rep K h M d v) : ∀ {ds : List (κ × D)} {vs : List (κ × V)}, RepG K h M ds vs → RepG K h M (ds ++ [(k, d)]) (vs ++ [(k, v)])
  | [], vs, r => by unfold RepG at r; subst r; show RepG K h M [(k, d)] [(k, v)]; unfold RepG; exact ⟨v, [], rfl, rv, by unfold RepG; rfl⟩
  | (f, d') :: ds, vs, r => by
    unfold RepG at r
    obtain ⟨w, t, e, a, b⟩ := r
    subst e
    show RepG K h M ((f, d') :: (ds ++ [(k, d)])) ((f, w) :: (t ++ [(k, v)]))
    unfold RepG
    exact ⟨w, _, rfl, a, RepG.snoc rv b⟩
theorem RepG.upd {k : κ} {d : D} {v : V} (rv : Rep K h M d v) : ∀ {ds : List (κ × D)} {vs : List (κ × V)}, RepG K h M ds vs → RepG K h M (ds.map fun kv => if kv.1 = k then (kv.1, d) else kv) (vs.map fun kv => if kv.1 = k then (kv.1, v) else kv)
  | [], vs, r => by unfold RepG at r; subst r; unfold RepG; rfl
  | (f, d') :: ds, vs, r => by
    unfold RepG at r
    obtain ⟨w, t, e, a, b⟩ := r
    subst e
    rw [List.map_cons, List.map_cons]
    by_cases hf : f = k
    · rw [if_pos hf, if_pos hf]
      unfold RepG
      exact ⟨v, _, rfl, rv, RepG.upd rv b⟩
    · rw [if_neg hf, if_neg hf]
      unfold RepG
      exact ⟨w, _, rfl, a, RepG.upd rv b⟩
theorem RepG.put {k : κ} {d : D} {v : V} (rv : Rep K h M d v) {ds : List (κ × D)} {vs : List (κ × V)} (r : RepG K h M ds vs) : RepG K h M (putD ds k d) (putK vs k v) := by
  unfold putD putK
  rw [r.any k]
  split
  · exact r.upd rv
  · exact r.snoc rv
end
def keyOf : D → Option Key
  | .int i => some (.inl i)
  | .str x => some (.inr x)
  | _ => none
theorem keyOf_rep {h : DH} {M : Hp} {d : D} {v : V} {k : Key} (r : Rep K h M d v) (e : keyOf d = some k) : v = kV k := by
  cases d with
  | int i => cases e; unfold Rep at r; exact r
  | str i => cases e; unfold Rep at r; exact r
  | _ => cases e
def keysOf : List D → Option (List Key)
  | [] => some []
  | d :: ds => match keyOf d, keysOf ds with
    | some k, some ks => some (k :: ks)
    | _, _ => none
def keyT : D → Option (List Key)
  | .tup ds => keysOf ds
  | _ => none
theorem keysOf_rep {h : DH} {M : Hp} : ∀ {ds : List D} {vs : List V} {ks : List Key}, RepL K h M ds vs → keysOf ds = some ks → vs = ks.map kV
  | [], vs, ks, r, e => by unfold RepL at r; cases e; exact r
  | d :: ds, vs, ks, r, e => by
    unfold RepL at r; unfold keysOf at e
    obtain ⟨v, t, e1, a, b⟩ := r
    split at e
    · rename_i k ks' e2 e3
      cases e
      rw [e1, keyOf_rep a e2, keysOf_rep b e3]; rfl
    · cases e
/-- what stands in a table at a key -/
def dLook (o : DO) (k : D) : Option (Option D) := match o with
  | .dk kvs => (keyOf k).map fun k => look kvs k
  | .dt kvs => (keyT k).map fun k => look kvs k
  | _ => none
theorem dget_of {h : DH} {M H : Hp} (ab : Ab K h M H) {p : Addr} {o : DO} {k : D} {v : V} {r : Option D} (hp : h p = some o) (rk : Rep K h M k v) (e : dLook o k = some r) : ∃ ov, DGet H p v ov ∧ RepOp K h M r ov := by
  obtain ⟨u, hu, ro⟩ := ab.abs p o hp
  cases o with
  | dk kvs =>
    obtain ⟨vs, e1, rk'⟩ := ro
    subst e1
    obtain ⟨kk, e2, e3⟩ := Option.map_eq_some_iff.mp e
    have z := RepG.look kk (RepK.toG.mp rk')
    rw [keyOf_rep rk e2]
    refine ⟨_, DGet.k (ab.sub _ _ hu), ?_⟩
    rw [← e3]
    exact z
  | dt kvs =>
    obtain ⟨vs, e1, rk'⟩ := ro
    subst e1
    obtain ⟨kk, e2, e3⟩ := Option.map_eq_some_iff.mp e
    have z := RepG.look kk (RepT.toG.mp rk')
    cases k with
    | tup ds =>
      unfold Rep at rk
      obtain ⟨b, ws, e4, n4, m4, l4⟩ := rk
      subst e4
      rw [keysOf_rep l4 e2] at m4
      refine ⟨_, DGet.t (ab.sub _ _ hu) (ab.sub _ _ m4), ?_⟩
      rw [← e3]
      exact z
    | _ => cases e2
  | _ => cases e
/-! subscripts -/
@[irreducible] def ixD (x y : D) (h : DH) (Q : QK) : Prop := match deref h x, y with
  | .tup ds, .int i => match atI ds i with | some d => Q d h | none => False
  | .lst ds, .int i => match atI ds i with | some d => Q d h | none => False
  | .frz ds, .int i => match atI ds i with | some d => Q d h | none => False
  | .str z, .int i => z.length ≤ sizeLine ∧ match atI z.cps.toList i with | some c => Q (.str ⟨#[c]⟩) h | none => False
  | .ref p, y => match h p with
    | some o => match dLook o y with
      | some (some d) => Q d h
      | _ => False
    | none => False
  | _, _ => False
theorem RepL.at {h : DH} {M : Hp} {ds : List D} {vs : List V} {i : Int} {d : D} (r : RepL K h M ds vs) (e : atI ds i = some d) : ∃ v, atI vs i = some v ∧ Rep K h M d v := by
  unfold atI at e ⊢
  rw [r.len]
  cases hi : ixN ds.length i with
  | none => rw [hi] at e; cases e
  | some j =>
    rw [hi] at e
    obtain ⟨v, e1, rv⟩ := r.get (i := j) (show ds[j]? = some d from e)
    exact ⟨v, e1, rv⟩
section
variable {X : Cx} {E : WX} {a b : Expr} {ua ub : U} {pos : Pos}
theorem ix_dict (hu : X.A.units + 1 < cLine) : IxR X (fun x y H Q => ∃ a v, x = .ref a ∧ DGet H a y (some v) ∧ Q v H) := by
  intro value slice pins s σ H x y v u Q I rx ry h hs
  obtain ⟨p, z, rfl, g, q⟩ := h
  cases rx
  have hT := dict_typeIs I g
  unfold subscriptTail
  refine wpAny_bind ?_
  rw [getitemInPython_of_ne hT.not_modules]
  refine wpAny_bind (wpAny_specialOf hT PySem.F.slot_dict_getitem.lookup ?_)
  have fin : wpAny (model X.prog X.w) X.A (subscripted slice false (.ref p) u) (fun r s₃ => wpAny (model X.prog X.w) X.A (letTemporaryGo value (.ref p) r >>= fun _ => pure r) (EP X pins σ Q) X.xe s₃) X.xe s := by
    rw [hs]
    refine wpAny_operating (wpAny_mono (d_getItem hu I g ry (Q := fun r s₃ => EP X pins σ Q r s₃) fun w' s3 I3 rw' => ⟨z, H, I3, rw', q⟩) (fun r s₃ h₃ => wpAny_bind (wpAny_letTemporaryGo (wpAny_pure h₃))) fun _ _ x => x)
  first
    | exact wpAny_bind fin
    | exact wpAny_bind (wpAny_pure (wpAny_bind fin))
    | (refine wpAny_pure ?_; exact wpAny_bind fin)
theorem ix_all (hu : X.A.units + 1 < cLine) : IxR X (r2 X.K ixD) := by
  intro value slice pins s σ H v w u u' Q I rv rw' ⟨x, y, h, M, Q3, ab, rx, ry, q, im⟩ hs
  unfold ixD at q
  split at q
  · rename_i ds i e1
    obtain ⟨p, ws, e2, _, m, l⟩ := rx.dTup e1
    unfold Rep at ry
    subst e2; subst ry
    split at q
    · rename_i d ed
      obtain ⟨z, ez, rz⟩ := l.at ed
      exact ix_tup value slice pins s σ H _ _ u u' Q I rv rw' ⟨p, ws, i, z, rfl, rfl, SqT.of (ab.sub _ _ m), ez, im.val ab q rz⟩ hs
    · exact q.elim
  · rename_i ds i e1
    obtain ⟨p, ws, e2, _, m, l⟩ := rx.toLst ab e1
    unfold Rep at ry
    subst e2; subst ry
    split at q
    · rename_i d ed
      obtain ⟨z, ez, rz⟩ := l.at ed
      exact ix_list value slice pins s σ H _ _ u u' Q I rv rw' ⟨p, ws, i, z, rfl, rfl, SqL.of m, ez, im.val ab q rz⟩ hs
    · exact q.elim
  · rename_i ds i e1
    obtain ⟨p, ws, e2, m, l⟩ := rx.dFrz e1
    unfold Rep at ry
    subst e2; subst ry
    split at q
    · rename_i d ed
      obtain ⟨z, ez, rz⟩ := l.at ed
      exact ix_list value slice pins s σ H _ _ u u' Q I rv rw' ⟨p, ws, i, z, rfl, rfl, ab.frz m, ez, im.val ab q rz⟩ hs
    · exact q.elim
  · rename_i z i e1
    rw [rx.dStr e1] at rv
    unfold Rep at ry
    subst ry
    obtain ⟨q1, q⟩ := q
    split at q
    · rename_i c ec
      exact ix_str value slice pins s σ H _ _ u u' Q I rv rw' ⟨z, i, c, rfl, rfl, q1, ec, im.str ab q⟩ hs
    · exact q.elim
  · rename_i p e1
    split at q
    · rename_i o eo
      split at q
      · rename_i d ed
        have ex : x = .ref p := by
          rw [rx.notLst (by intro ds z; rw [e1] at z; cases z)] at e1; exact e1
        subst ex
        unfold Rep at rx
        subst rx
        obtain ⟨ov, g, z, ez, rz⟩ := dget_of ab eo ry ed
        subst ez
        exact ix_dict hu value slice pins s σ H _ _ u u' Q I rv rw' ⟨p, z, rfl, g, im.val ab q rz⟩ hs
      · exact q.elim
    · exact q.elim
  · exact q.elim
theorem e_ix (hu : X.A.units + 1 < cLine) (ha : PE X a (tE X.K E ua)) (hb : PE X b (tE X.K E ub)) (hs : PlainIx b := by intro _ _; rfl) : PE X (.Subscript a b pos) (tE X.K E (uO2 ixD ua ub)) := pe_weak (pe_ix (ix_all hu) ha hb hs) fun _ _ _ h => tOp_of h
/-! slices -/
abbrev UO := DSt → DH → (Option Int → DH → Prop) → EK → Prop
def tO (K : PySem.W.Frag) (E : WX) (u : UO) : TO := fun σ H Q => ∃ ρ h M Q3 E3, EAbs K ρ h σ M ∧ Ab K h M H ∧ u ρ h Q3 E3 ∧ (∀ o h' M' H', Q3 o h' → Ab K h' M' H' → Sy h M H h' M' H' → Q o H') ∧ ImpE K h M H E3 E
theorem po_weak {e : Option Expr} {t t' : TO} (p : PO X e t) (h : ∀ σ H Q, t' σ H Q → t σ H Q) : PO X e t' := ⟨fun pins s σ H Q I q => p.run pins s σ H Q I (h σ H Q q)⟩
def oN : UO := fun _ h Q _ => Q none h
def oS (a : U) : UO := fun ρ h Q E => a ρ h (fun d h1 => match d with | .int i => Q (some i) h1 | _ => False) E
theorem o_none : PO X none (tO X.K E oN) := po_weak po_none fun σ H Q h => by
  obtain ⟨ρ, h, M, Q3, E3, ea, ab, q, im, ie⟩ := h
  exact im none h M H q ab (Sy.refl _ _ _)
theorem o_some (ha : PE X a (tE X.K E ua)) : PO X (some a) (tO X.K E (oS ua)) := po_weak (po_some ha) fun σ H Q h => by
  obtain ⟨ρ, h, M, Q3, E3, ea, ab, q, im, ie⟩ := h
  refine ⟨ρ, h, M, _, E3, ea, ab, q, fun d h1 v M1 H1 q1 a1 s1 r1 => ?_, ie⟩
  cases d with
  | int i => unfold Rep at r1; exact ⟨i, r1, im (some i) h1 M1 H1 q1 a1 s1⟩
  | _ => exact q1.elim
/-- a part of a list -/
def cut {α : Type} (xs : List α) (lo hi : Option Int) : List α := (xs.drop (HT.sIx xs.length 0 lo)).take (HT.sIx xs.length xs.length hi - HT.sIx xs.length 0 lo)
@[irreducible] def slD (x : D) (lo hi : Option Int) (h : DH) (Q : QK) : Prop := match deref h x with
  | .tup ds => Q (.tup (cut ds lo hi)) h
  | .lst ds => Q (.lst (cut ds lo hi)) h
  | .frz ds => Q (.lst (cut ds lo hi)) h
  | _ => False
def uSl (a : U) (l u : UO) : U := fun ρ h Q E => a ρ h (fun x h1 => l ρ h1 (fun lo h2 => u ρ h2 (fun hi h3 => slD x lo hi h3 Q) E) E) E
theorem RepL.cut {h : DH} {M : Hp} {ds : List D} {vs : List V} (r : RepL K h M ds vs) (lo hi : Option Int) : RepL K h M (L3.cut ds lo hi) (cutV vs lo hi) := by
  unfold L3.cut cutV
  rw [r.len]
  exact RepL.take _ (RepL.drop _ r)
theorem cut_whole {α : Type} {xs : List α} {lo hi : Option Int} (h : HT.sIx xs.length 0 lo = 0 ∧ HT.sIx xs.length xs.length hi = xs.length) : cut xs lo hi = xs := by
  unfold cut
  rw [h.1, h.2, List.drop_zero, Nat.sub_zero, List.take_length]
def rSl3 (K : PySem.W.Frag) (x : V) (lo hi : Option Int) (H : Hp) (Q : VK) : Prop := ∃ d h M Q3, Ab K h M H ∧ Rep K h M d x ∧ slD d lo hi h Q3 ∧ Imp K h M H Q3 Q
theorem sl_all : SlR X (rSl3 X.K) := by
  intro pins s σ H x v vl vu lo hi sl Q I rx hs pl pu ⟨d, h, M, Q3, ab, r, q, im⟩
  unfold slD at q
  split at q
  · rename_i ds e
    obtain ⟨p, ws, e2, n, m, l⟩ := r.dTup e
    subst e2
    refine sl_tupA pins s σ H _ v vl vu lo hi sl Q I rx hs pl pu ⟨p, ws, rfl, SqT.of (ab.sub _ _ m), fun hw => ?_, fun hw t ht => im.tup ab q (l.cut lo hi) t ht⟩
    rw [l.len] at hw
    rw [cut_whole hw] at q
    exact im.val ab q (by unfold Rep; exact ⟨p, ws, rfl, n, m, l⟩)
  · rename_i ds e
    obtain ⟨p, ws, e2, _, m, l⟩ := r.toLst ab e
    subst e2
    exact sl_list pins s σ H _ v vl vu lo hi sl Q I rx hs pl pu ⟨p, ws, rfl, SqL.of m, fun t ht => im.lst ab q (l.cut lo hi) t ht⟩
  · rename_i ds e
    obtain ⟨p, ws, e2, m, l⟩ := r.dFrz e
    subst e2
    exact sl_list pins s σ H _ v vl vu lo hi sl Q I rx hs pl pu ⟨p, ws, rfl, ab.frz m, fun t ht => im.lst ab q (l.cut lo hi) t ht⟩
  · exact q.elim
theorem e_sl {lo hi : Option Expr} {ul uh : UO} {p2 : Pos} (ha : PE X a (tE X.K E ua)) (hl : PO X lo (tO X.K E ul)) (hu : PO X hi (tO X.K E uh)) : PE X (.Subscript a (.Slice lo hi none p2) pos) (tE X.K E (uSl ua ul uh)) := pe_weak (pe_slice sl_all ha hl hu) fun σ H Q h => by
  obtain ⟨ρ, h, M, Q3, E3, ea, ab, q, im, ie⟩ := h
  refine ⟨ρ, h, M, _, E3, ea, ab, q, fun d h1 v M1 H1 q1 a1 s1 r1 => ?_, ie⟩
  refine ⟨ρ, h1, M1, _, E3, ea.stay s1.st, a1, q1, fun lo h2 M2 H2 q2 a2 s2 => ?_, ie.stay s1⟩
  refine ⟨ρ, h2, M2, _, E3, ea.stay (s1.trans s2).st, a2, q2, fun hi h3 M3 H3 q3 a3 s3 => ?_, ie.stay (s1.trans s2)⟩
  exact ⟨d, h3, M3, Q3, a3, (r1.stay s2.st).stay s3.st, q3, im.stay ((s1.trans s2).trans s3)⟩
/-! methods of lists that are written -/
def r1M (K : PySem.W.Frag) (f : D → List D → DH → QK → Prop) : V → List V → Hp → VK → Prop := fun v vs H Q => ∃ d ds h M Q3, Ab K h M H ∧ Rep K h M d v ∧ RepL K h M ds vs ∧ f d ds h Q3 ∧ Imp K h M H Q3 Q
/-- o.m(e, ..) of a tracked list -/
def uMt (f : D → List D → DH → QK → Prop) (o : U) (a : UA) : U := fun ρ h Q E => o ρ h (fun x h1 => (match deref h1 x with | .lst _ => True | _ => False) ∧ a ρ h1 (fun xs h2 => f x xs h2 Q) E) E
@[irreducible] def appD (x : D) (xs : List D) (h : DH) (Q : QK) : Prop := match x, xs with
  | .ref p, [d] => match h p with
    | some (.lst ds) => ds.length < sizeLine ∧ Q .non (put h p (.lst (ds ++ [d])))
    | _ => False
  | _, _ => False
@[irreducible] def extD (x : D) (xs : List D) (h : DH) (Q : QK) : Prop := match x, xs with
  | .ref p, [d] => match h p, deref h d with
    | some (.lst ds), .lst es => ds.length + es.length ≤ sizeLine ∧ Q .non (put h p (.lst (ds ++ es)))
    | _, _ => False
  | _, _ => False
@[irreducible] def popD (x : D) (xs : List D) (h : DH) (Q : QK) : Prop := match x, xs with
  | .ref p, [] => match h p with
    | some (.lst ds) => match ds[ds.length - 1]? with
      | some d => Q d (put h p (.lst ds.dropLast))
      | none => False
    | _ => False
  | .ref p, [.int i] => match h p with
    | some (.lst ds) => match ixN ds.length i with
      | some j => match ds[j]? with
        | some d => Q d (put h p (.lst (ds.eraseIdx j)))
        | none => False
      | none => False
    | _ => False
  | _, _ => False
theorem Imp.setL {h : DH} {M H : Hp} {Q3 : QK} {Q : VK} {p : Addr} {u0 : DO} {ds : List D} {vs : List V} {d : D} {v : V} (im : Imp K h M H Q3 Q) (ab : Ab K h M H) (e : h p = some u0) (r : RepL K h M ds vs) (rv : Rep K h M d v) (q : Q3 d (put h p (.lst ds))) : Q v (upd H p (.lst vs)) :=
  im d _ v _ _ q (ab.setP e ⟨vs, rfl, r⟩) (sy_set ab e) (rv.stay (sy_set (o := .lst vs) ab e).st)
theorem rep_non' {h : DH} {M : Hp} : Rep K h M .non .non := by unfold Rep; rfl
theorem m_app : MtR X "list.append" (r1M X.K appD) := by
  intro pins s σ H x xs v us Q I rx rxs ⟨d, ds, h, M, Q3, ab, r, rl, q, im⟩
  unfold appD at q
  split at q
  · rename_i p d
    obtain ⟨w, e1, rd⟩ := rl.one
    unfold Rep at r
    subst r; subst e1
    split at q
    · rename_i es hp
      obtain ⟨z, hz, ws, e2, l⟩ := ab.abs p _ hp
      subst e2
      exact mt_append pins s σ H _ _ v us Q I rx rxs ⟨p, ws, w, rfl, rfl, ab.sub _ _ hz, by rw [l.len]; exact q.1, im.setL ab hp (RepL.snoc rd l) rep_non' q.2⟩
    · exact q.elim
  · exact q.elim
theorem m_ext : MtR X "list.extend" (r1M X.K extD) := by
  intro pins s σ H x xs v us Q I rx rxs ⟨d, ds, h, M, Q3, ab, r, rl, q, im⟩
  unfold extD at q
  split at q
  · rename_i p d
    obtain ⟨w, e1, rd⟩ := rl.one
    unfold Rep at r
    subst r; subst e1
    split at q
    · rename_i es fs hp he
      obtain ⟨z, hz, ws, e2, l⟩ := ab.abs p _ hp
      subst e2
      obtain ⟨b, ws2, e3, _, m, l2⟩ := rd.toLst ab he
      subst e3
      exact mt_extend pins s σ H _ _ v us Q I rx rxs ⟨p, b, ws, ws2, rfl, rfl, ab.sub _ _ hz, m, by rw [l.len, l2.len]; exact q.1, im.setL ab hp (RepL.app l2 l) rep_non' q.2⟩
    · exact q.elim
  · exact q.elim
theorem RepL.dropLast {h : DH} {M : Hp} {ds : List D} {vs : List V} (r : RepL K h M ds vs) : RepL K h M ds.dropLast vs.dropLast := by
  rw [List.dropLast_eq_take, List.dropLast_eq_take, r.len]
  exact RepL.take _ r
theorem RepL.erase {h : DH} {M : Hp} {ds : List D} {vs : List V} (r : RepL K h M ds vs) (j : Nat) : RepL K h M (ds.eraseIdx j) (vs.eraseIdx j) := by
  rw [List.eraseIdx_eq_take_drop_succ, List.eraseIdx_eq_take_drop_succ]
  exact RepL.app (RepL.drop _ r) (RepL.take _ r)
theorem m_pop : MtR X "list.pop" (r1M X.K popD) := by
  intro pins s σ H x xs v us Q I rx rxs ⟨d, ds, h, M, Q3, ab, r, rl, q, im⟩
  unfold popD at q
  split at q
  · rename_i p
    unfold Rep at r
    unfold RepL at rl
    subst r; subst rl
    split at q
    · rename_i es hp
      obtain ⟨z, hz, ws, e2, l⟩ := ab.abs p _ hp
      subst e2
      split at q
      · rename_i d ed
        obtain ⟨y, ey, ry⟩ := l.get ed
        exact mt_pop pins s σ H _ _ v us Q I rx rxs ⟨p, ws, y, rfl, rfl, ab.sub _ _ hz, by rw [l.len]; exact ey, im.setL ab hp l.dropLast ry q⟩
      · exact q.elim
    · exact q.elim
  · rename_i p i
    obtain ⟨w, e1, rd⟩ := rl.one
    unfold Rep at r rd
    subst r; subst e1; subst rd
    split at q
    · rename_i es hp
      obtain ⟨z, hz, ws, e2, l⟩ := ab.abs p _ hp
      subst e2
      split at q
      · rename_i j ej
        split at q
        · rename_i d ed
          obtain ⟨y, ey, ry⟩ := l.get ed
          obtain ⟨sx, hj, hlo, hhi⟩ := ixN_seq ej
          have hz2 : ws.length ≤ sizeLine := (I.lstM (ab.sub _ _ hz)).1
          have ln := l.len
          have l63 := sizeLine_eq
          exact mt_popAt pins s σ H _ _ v us Q I rx rxs ⟨p, ws, i, j, y, rfl, rfl, ab.sub _ _ hz, by omega, by omega, by rw [l.len]; exact sx, ey, im.setL ab hp (l.erase j) ry q⟩
        · exact q.elim
      · exact q.elim
    · exact q.elim
  · exact q.elim
variable {o : Expr} {e : Expr} {es : List Expr} {uo : U} {ur : UA} {name : Str} {apos cpos : Pos} {id : String} {f : D → List D → DH → QK → Prop}
theorem tBM_of {σ : L2.St} {H : Hp} {Q : VK} (h : tE X.K E (uMt f uo ur) σ H Q) : tBM X.K "list" (r1M X.K f) (tE X.K E uo) (tA X.K E ur) σ H Q := by
  obtain ⟨ρ, h, M, Q3, E3, ea, ab, q, im, ie⟩ := h
  refine ⟨ρ, h, M, _, E3, ea, ab, q, fun d h1 v M1 H1 q1 a1 s1 r1 => ?_, ie⟩
  obtain ⟨q0, q1⟩ := q1
  refine ⟨?_, ρ, h1, M1, _, E3, ea.stay s1.st, a1, q1, fun ds h2 vs M2 H2 q2 a2 s2 r2 => ?_, ie.stay s1⟩
  · split at q0
    · rename_i es ee
      obtain ⟨p, ws, e2, _, m, l⟩ := r1.toLst a1 ee
      subst e2
      exact .inl ⟨rfl, ws, SqL.of m⟩
    · exact q0.elim
  · exact ⟨d, ds, h2, M2, Q3, a2, r1.stay s2.st, r2, q2, im.stay (s1.trans s2)⟩
theorem e_mt (pa : PlainAttrs "list") (slot : Slot "list" name id) (hty : typeOf (.builtin id) = pure (.type "method_descriptor")) (hm : MtR X id (r1M X.K f)) (ho : PE X o (tE X.K E uo)) (ha : PA X (e :: es) (tA X.K E ur))
    (hbase : attributeBase o name X.env (eval o X.env) = eval o X.env := by rfl)
    (hfew : ((backTo cpos (starEach (e :: es) X.env)).all (fun x => !x.1) && (backToKw cpos (keywordEach [] X.env)).all (fun x => x.1.isSome)
      && decide ((e :: es).length + ([] : List Keyword).length + (if ([] : List Keyword).isEmpty then 0 else 1) < 30)) = true := by rfl)
    (hline : (apos.endLine == cpos.line) = true := by rfl) (hs : starEach (e :: es) X.env = (false, eval e X.env) :: starEach es X.env := by rfl) (hplain : (backTo cpos (starEach es X.env)).any (·.1) = false := by rfl) :
    PE X (.Call (.Attribute o name apos) (e :: es) [] cpos) (tE X.K E (uMt f uo ur)) := pe_weak (pe_bm pa slot hty hm ho ha hbase hfew hline hs hplain) fun _ _ _ h => tBM_of h
def uMt0 (f : D → List D → DH → QK → Prop) (o : U) : U := fun ρ h Q E => o ρ h (fun x h1 => (match deref h1 x with | .lst _ => True | _ => False) ∧ f x [] h1 Q) E
theorem e_mt0 (pa : PlainAttrs "list") (slot : Slot "list" name id) (hty : typeOf (.builtin id) = pure (.type "method_descriptor")) (hm : MtR X id (r1M X.K f)) (ho : PE X o (tE X.K E uo))
    (hbase : attributeBase o name X.env (eval o X.env) = eval o X.env := by rfl) (hline : (apos.endLine == cpos.line) = true := by rfl) : PE X (.Call (.Attribute o name apos) [] [] cpos) (tE X.K E (uMt0 f uo)) := pe_weak (pe_bm0 pa slot hty hm ho hbase hline) fun σ H Q h => by
  obtain ⟨ρ, h, M, Q3, E3, ea, ab, q, im, ie⟩ := h
  refine ⟨ρ, h, M, _, E3, ea, ab, q, fun d h1 v M1 H1 q1 a1 s1 r1 => ?_, ie⟩
  obtain ⟨q0, q1⟩ := q1
  refine ⟨?_, d, [], h1, M1, Q3, a1, r1, by unfold RepL; rfl, q1, im.stay s1⟩
  split at q0
  · rename_i es ee
    obtain ⟨p, ws, e2, _, m, l⟩ := r1.toLst a1 ee
    subst e2
    exact .inl ⟨rfl, ws, SqL.of m⟩
  · exact q0.elim
end
end L3

set_option Elab.async false
set_option linter.all false
set_option maxRecDepth 100000
set_option maxHeartbeats 4000000
namespace L3
open PySem PySem.Spec PyProof.Rows L2
variable {K : PySem.W.Frag}
/-! dicts -/
def uPr (ρ : DSt) (E : EK) : List (U × U) → DH → (List (Key × D) → DH → Prop) → Prop
  | [], h, Q => Q [] h
  | (k, v) :: r, h, Q => k ρ h (fun x h1 => match keyOf x with
    | some kk => v ρ h1 (fun y h2 => uPr ρ E r h2 (fun kvs h3 => Q ((kk, y) :: kvs) h3)) E
    | none => False) E
def mrg (kvs more : List (Key × D)) : List (Key × D) := more.foldl (fun acc kv => putD acc kv.1 kv.2) kvs
/-- {k: v, ..}, tracked -/
def uDs (ps : List (U × U)) : U := fun ρ h Q E => uPr ρ E ps h (fun kvs h1 => kvs.length ≤ 15 ∧ ∀ p, h1 p = none → Q (.ref p) (put h1 p (.dk (mrg [] kvs))))
theorem RepG.mrg {h : DH} {M : Hp} : ∀ {more : List (Key × D)} {vs : List (Key × V)} {kvs : List (Key × D)} {ws : List (Key × V)}, RepG K h M more vs → RepG K h M kvs ws → RepG K h M (L3.mrg kvs more) (mergeK ws vs)
  | [], vs, kvs, ws, r, q => by unfold RepG at r; subst r; exact q
  | (k, d) :: more, vs, kvs, ws, r, q => by
    unfold RepG at r
    obtain ⟨v, t, e, a, b⟩ := r
    subst e
    show RepG K h M (L3.mrg (putD kvs k d) more) (mergeK (putK ws k v) t)
    exact RepG.mrg b (q.put a)
theorem RepG.stay {κ : Type} {h h' : DH} {M M' : Hp} (s : Stay h M h' M') : ∀ {ds : List (κ × D)} {vs : List (κ × V)}, RepG K h M ds vs → RepG K h' M' ds vs
  | [], vs, r => by unfold RepG at r ⊢; exact r
  | (f, d) :: ds, vs, r => by
    unfold RepG at r ⊢
    obtain ⟨v, t, e, a, b⟩ := r
    exact ⟨v, t, e, a.stay s, RepG.stay s b⟩
section
variable {X : Cx} {E : WX} {pos : Pos}
theorem tPairs_of {σ : L2.St} {ρ : DSt} {E3 : EK} : ∀ {ps : List (U × U)} {h : DH} {M H : Hp} {Q3 : List (Key × D) → DH → Prop} {Q : List (V × V) → Hp → Prop}, EAbs X.K ρ h σ M → Ab X.K h M H → uPr ρ E3 ps h Q3 → ImpE X.K h M H E3 E →
    (∀ kvs h' M' H' vs, Q3 kvs h' → Ab X.K h' M' H' → Sy h M H h' M' H' → RepG X.K h' M' kvs vs → Q (vs.map fun kv => (kV kv.1, kv.2)) H') → tPairs (ps.map fun p => (tE X.K E p.1, tE X.K E p.2)) σ H Q
  | [], h, M, H, Q3, Q, ea, ab, q, ie, im => im [] h M H [] q ab (Sy.refl _ _ _) (by unfold RepG; rfl)
  | (k, v) :: ps, h, M, H, Q3, Q, ea, ab, q, ie, im => by
    refine ⟨ρ, h, M, _, E3, ea, ab, q, fun x h1 vx M1 H1 q1 a1 s1 r1 => ?_, ie⟩
    dsimp only at q1
    split at q1
    · rename_i kk ek
      refine ⟨ρ, h1, M1, _, E3, ea.stay s1.st, a1, q1, fun y h2 vy M2 H2 q2 a2 s2 r2 => ?_, ie.stay s1⟩
      refine tPairs_of (ea.stay (s1.trans s2).st) a2 q2 (ie.stay (s1.trans s2)) fun kvs h3 M3 H3 vs q3 a3 s3 r3 => ?_
      have z := im ((kk, y) :: kvs) h3 M3 H3 ((kk, vy) :: vs) q3 a3 ((s1.trans s2).trans s3) (by unfold RepG; exact ⟨vy, vs, rfl, r2.stay s3.st, r3⟩)
      rw [keyOf_rep r1 ek]
      exact z
    · exact q1.elim
theorem e_disp {keys : List (Option Expr)} {values : List Expr} {ps : List (U × U)} (h : PPs X pos keys values (ps.map fun p => (tE X.K E p.1, tE X.K E p.2))) (hall : keys.all (·.isSome) = true) (hl : keys.length = values.length) (h0 : keys ≠ []) (h15 : keys.length ≤ 15) : PE X (.Dict keys values pos) (tE X.K E (uDs ps)) := pe_weak (pe_disp h hall hl h0 h15) fun σ H Q h => by
  obtain ⟨ρ, h, M, Q3, E3, ea, ab, q, im, ie⟩ := h
  intro p hp
  refine tPairs_of ea (ab.hide hp) q (ie.stay (sy_hide hp)) fun kvs h1 M1 H1 vs q1 a1 s1 r1 => ?_
  have hid := s1.hid p _ (ab.freeM hp) upd_same
  have s0 : Sy h M H h1 M1 H1 := (sy_hide hp).trans s1
  refine ⟨hid.1, vs, rfl, by rw [r1.len]; exact q1.1, ?_⟩
  have hn : h1 p = none := a1.abs.free hid.2
  have st1 : Sy h1 M1 H1 h1 M1 (upd H1 p (.dK (mergeK [] vs))) → True := fun _ => trivial
  have a2 : Ab X.K h1 M1 (upd H1 p (.dK (mergeK [] vs))) := ⟨a1.abs, fun x o z => by
    rw [upd_ne (fun z2 => by rw [z2, hid.2] at z; cases z)]; exact a1.sub x o z⟩
  have s2 : Sy h M H h1 M1 (upd H1 p (.dK (mergeK [] vs))) := ⟨s0.st, fun x o n z => by
    have hx : x ≠ p := fun z2 => by rw [z2, hp] at z; cases z
    rw [upd_ne hx]; exact s0.hid x o n z, fun x z => s0.dom x (dom_upd x z)⟩
  refine im (.ref p) _ (.ref p) _ _ (q1.2 p hn) (a2.showPut upd_same hid.2 ⟨_, rfl, RepK.toG.mpr (r1.mrg (by unfold RepG; rfl))⟩) (s2.showPut ab hp hid.2) (by unfold Rep; rfl)
theorem pp_nil : PPs X pos [] [] (([] : List (U × U)).map fun p => (tE X.K E p.1, tE X.K E p.2)) := pps_nil
theorem pp_cons {k v : Expr} {ks : List (Option Expr)} {vs : List Expr} {uk uv : U} {ps : List (U × U)} (hk : PE X k (tE X.K E uk)) (hv : PE X v (tE X.K E uv)) (hr : PPs X pos ks vs (ps.map fun p => (tE X.K E p.1, tE X.K E p.2))) : PPs X pos (some k :: ks) (v :: vs) (((uk, uv) :: ps).map fun p => (tE X.K E p.1, tE X.K E p.2)) := pps_cons hk hv hr
/-- {}: with keys that are numbers and texts, with keys that are tuples; by value -/
def uDk : U := fun _ h Q _ => ∀ p, h p = none → Q (.ref p) (put h p (.dk []))
def uDt : U := fun _ h Q _ => ∀ p, h p = none → Q (.ref p) (put h p (.dt []))
def uDv : U := fun _ h Q _ => Q (.dic []) h
theorem e_dk : PE X (.Dict [] [] pos) (tE X.K E uDk) := pe_weak pe_dnewK fun σ H Q h => by
  obtain ⟨ρ, h, M, Q3, E3, ea, ab, q, im, ie⟩ := h
  exact fun p hp => im (.ref p) _ (.ref p) _ _ (q p (ab.free hp)) (ab.putN hp ⟨[], rfl, by unfold RepK; rfl⟩) (sy_put ab hp) (by unfold Rep; rfl)
theorem e_dt : PE X (.Dict [] [] pos) (tE X.K E uDt) := pe_weak pe_dnewT fun σ H Q h => by
  obtain ⟨ρ, h, M, Q3, E3, ea, ab, q, im, ie⟩ := h
  exact fun p hp => im (.ref p) _ (.ref p) _ _ (q p (ab.free hp)) (ab.putN hp ⟨[], rfl, by unfold RepT; rfl⟩) (sy_put ab hp) (by unfold Rep; rfl)
theorem e_dv : PE X (.Dict [] [] pos) (tE X.K E uDv) := pe_weak pe_dnewK fun σ H Q h => by
  obtain ⟨ρ, h, M, Q3, E3, ea, ab, q, im, ie⟩ := h
  exact fun p hp => im (.dic []) h (.ref p) _ _ q (ab.new hp) (sy_new ab hp) (by unfold Rep; exact ⟨p, [], rfl, ab.free hp, upd_same, by unfold RepK; rfl⟩)
/-- d[k] = v, xs[i] = v -/
@[irreducible] def setD (o k v : D) (h : DH) (Q : DH → Prop) : Prop := match o with
  | .ref p => match h p with
    | some (.dk kvs) => match keyOf k with
      | some kk => kvs.length < sizeLine ∧ Q (put h p (.dk (putD kvs kk v)))
      | none => False
    | some (.dt kvs) => match keyT k with
      | some kk => kvs.length < sizeLine ∧ Q (put h p (.dt (putD kvs kk v)))
      | none => False
    | some (.lst ds) => match k with
      | .int i => match ixN ds.length i with
        | some j => Q (put h p (.lst (ds.set j v)))
        | none => False
      | _ => False
    | _ => False
  | _ => False
def sDp (o k v : U) : US := fun D ρ h => v ρ h (fun z h1 => o ρ h1 (fun x h2 => k ρ h2 (fun y h3 => setD x y z h3 (fun h4 => D.nx ρ h4)) D.ex) D.ex) D.ex
def tSet3 (K : PySem.W.Frag) : TSet := fun o i v H Q => ∃ od id vd h M Q3, Ab K h M H ∧ Rep K h M od o ∧ Rep K h M id i ∧ Rep K h M vd v ∧ setD od id vd h Q3 ∧ ∀ h' M' H', Q3 h' → Ab K h' M' H' → Sy h M H h' M' H' → Q H'
theorem set_all (hu : X.A.units + 1 < cLine) : PSet X (tSet3 X.K) := by
  intro pins s σ H x y z ov iv u Q I rx ry rz ⟨o, k, v, h, M, Q3, ab, ro, rk, rv, q, im⟩
  unfold setD at q
  cases o with
  | ref p =>
    unfold Rep at ro
    subst ro
    cases rx
    dsimp only at q
    split at q
    · rename_i kvs hp
      split at q
      · rename_i kk ek
        obtain ⟨w, hw, vs, e1, r⟩ := ab.abs p _ hp
        subst e1
        have rg := RepK.toG.mp r
        have g : DPut H p y z (upd H p (.dK (putK vs kk z))) := by
          rw [keyOf_rep rk ek]
          exact DPut.k (ab.sub _ _ hw) (by rw [rg.len]; exact q.1)
        exact d_setItem hu I g ry rz fun s4 I4 => ⟨_, I4, im _ _ _ q.2 (ab.setP hp ⟨_, rfl, RepK.toG.mpr (rg.put (k := kk) rv)⟩) (sy_set ab hp)⟩
      · exact q.elim
    · rename_i kvs hp
      split at q
      · rename_i kk ek
        obtain ⟨w, hw, vs, e1, r⟩ := ab.abs p _ hp
        subst e1
        have rg := RepT.toG.mp r
        cases k with
        | tup ds =>
          unfold Rep at rk
          obtain ⟨b, ws, e4, n4, m4, l4⟩ := rk
          subst e4
          rw [keysOf_rep l4 ek] at m4
          exact d_setItem hu I (DPut.t (ab.sub _ _ hw) (ab.sub _ _ m4) (by rw [rg.len]; exact q.1)) ry rz fun s4 I4 => ⟨_, I4, im _ _ _ q.2 (ab.setP hp ⟨_, rfl, RepT.toG.mpr (rg.put (k := kk) rv)⟩) (sy_set ab hp)⟩
        | _ => cases ek
      · exact q.elim
    · rename_i ds hp
      split at q
      · rename_i i
        unfold Rep at rk
        subst rk
        split at q
        · rename_i j ej
          obtain ⟨w, hw, vs, e1, r⟩ := ab.abs p _ hp
          subst e1
          refine set_list pins s σ H (.ref p) (.int i) z (.ref p) iv u Q I rfl ry rz ⟨p, vs, i, j, rfl, rfl, ab.sub _ _ hw, by rw [r.len]; exact ej, im _ _ _ q (ab.setP hp ⟨_, rfl, ?_⟩) (sy_set ab hp)⟩
          refine RepL.of_get (by rw [List.length_set, List.length_set, r.len]) fun n d' v' e2 e3 => ?_
          by_cases hj : j = n
          · subst hj
            obtain ⟨hl, _⟩ := List.getElem?_eq_some_iff.mp e2
            rw [List.length_set] at hl
            rw [List.getElem?_set_self hl] at e2
            rw [List.getElem?_set_self (by rw [r.len]; exact hl)] at e3
            cases e2; cases e3
            exact rv
          · rw [List.getElem?_set_ne hj] at e2 e3
            obtain ⟨v2, e4, r4⟩ := r.get e2
            rw [e3] at e4; cases e4
            exact r4
        · exact q.elim
      · exact q.elim
    · exact q.elim
  | _ => exact q.elim
theorem s_put {o i value : Expr} {pos' : Pos} {uo ui uv : U} (hu : X.A.units + 1 < cLine) (ho : PE X o (tE X.K E uo)) (hi : PE X i (tE X.K E ui)) (hv : PE X value (tE X.K E uv))
    (ha : ∀ v, assign (.Subscript o i pos') X.env v = (do
      let ov ← holding [v] (eval o X.env)
      let iv ← holding [v, ov] (eval i X.env)
      standAt pos'
      holding [v, ov, iv] (setItem ov iv v)
      release [v, ov, iv] []) := by intro _; rfl)
    (hs : swapsWithSole [.Subscript o i pos'] value pos.line X.env = pure false := by rfl) (hw : swappedStores [.Subscript o i pos'] value X.env = pure none := by rfl)
    (h1 : (assignEach [.Subscript o i pos'] X.env).map (·.2) = [assign (.Subscript o i pos') X.env] := by rfl) : PS X (.Assign [.Subscript o i pos'] value pos) (tS X.K E (sDp uo ui uv)) := ps_weak (ps_asg hv (pg_sub ho hi (set_all hu) ha) hs hw h1) fun D' σ H h => by
  obtain ⟨ρ, h, M, D3, ea, ab, q, im⟩ := h
  refine ⟨ρ, h, M, _, _, ea, ab, q, fun z h1 vz M1 H1 q1 a1 s1 r1 => ?_, im.2.2.2.2⟩
  refine ⟨ρ, h1, M1, _, _, ea.stay s1.st, a1, q1, fun x h2 vx M2 H2 q2 a2 s2 r2 => ?_, im.2.2.2.2.stay s1⟩
  refine ⟨ρ, h2, M2, _, _, ea.stay (s1.trans s2).st, a2, q2, fun y h3 vy M3 H3 q3 a3 s3 r3 => ?_, im.2.2.2.2.stay (s1.trans s2)⟩
  exact ⟨x, y, z, h3, M3, _, a3, r2.stay s3.st, r3, (r1.stay s2.st).stay s3.st, q3, fun h4 M4 H4 q4 a4 s4 => im.1 ρ h4 σ M4 H4 q4 (ea.stay (((s1.trans s2).trans s3).trans s4).st) a4 (((s1.trans s2).trans s3).trans s4)⟩
end
end L3
namespace L3
open PySem PySem.Spec PyProof.Rows L2
variable {K : PySem.W.Frag}
/-! a def as its callers see it -/
def Cl (P : Program) (w : World) (K : PySem.W.Frag) (mg : Str → Option Value) (base : Heap) (k : Nat) (x : Str) (ps : List Str) (sp : Sp3) : Prop :=
  ∃ f fd, FnOk P w K mg base (L2.CX P w) k f fd ps (lift K sp) ∧ mg x = some (.ref f) ∧ PySem.W.keepIn K (.ref f) = true ∧ Binds K fd ps []
def Dn (K : PySem.W.Frag) (mg : Str → Option Value) (x : Str) (st : Stmt) : Prop := ∃ f fd, FunD K x x (defArgs st) (defBody st) (defScope st) [] [] f fd ∧ mg x = some (.ref f)
theorem e_cl {X : Cx} {W : WX} {k j : Nat} {ps : List Str} {sp : Sp3} {x : Str} {p pos : Pos} {e : Expr} {es : List Expr} {ua : UA} (c : Cl X.prog X.w X.K X.mg X.base j x ps sp) (hr : Room k X.A) (hj : j ≤ k) (hg : Gl X x) (tk : Takes X W)
    (ha : PA X (e :: es) (tA X.K W ua)) (hdb : (x == ("__debug__" : Str)) = false := by decide) (he : starEach (e :: es) X.env = (false, eval e X.env) :: starEach es X.env := by rfl) (hpl : (backTo pos (starEach es X.env)).any (·.1) = false := by rfl) :
    PE X (.Call (.Name x p) (e :: es) [] pos) (tE X.K W (uCl sp ua)) := by
  obtain ⟨f, fd, F, hm, hk, hb⟩ := c
  exact e_call F (hr.mono hj) hg hm hk hb tk ha hdb he hpl
theorem cl_of {P : Program} {w : World} {K : PySem.W.Frag} {mg : Str → Option Value} {base : Heap} {k m : Nat} {x : Str} {st : Stmt} {N ps : List Str} {u : US} (d : Dn K mg x st) (S : FnScope N ps (defScope st)) (hm : N.length - ps.length = m)
    (hb : ∀ (kV doc pm : Value) (an : Option Addr) (cdv ct : Value) (us : List Value), us.length = ps.length → bindArgs (PySem.W.fnOf x x (defArgs st) (defBody st) (defScope st) .none kV doc pm an cdv ct) ⟨us, []⟩ = pure (ps.zip us))
    (hbody : ∀ (f : Addr) (cdv : Value) (A : Around) (outer : List Env) (s : Shared) (H : Hp) (E : XK), Room k (A.deeper (envOfC x (defScope st) s.heap.objs.size f cdv)) →
      PSs (cxOf (L2.CX P w) P w K mg base N x (defScope st) f cdv A outer s H E) (defBody st) (tS K (fun c d _ H => E c d H) u)) : Cl P w K mg base (k + 1) x ps (dfn ps.length m u) := by
  obtain ⟨f, fd, F, g⟩ := d
  exact ⟨f, fd, fn3 F S hm (hbody f), g, F.kp, F.bindsN hb⟩
/-! a tracked list that is handed on is frozen -/
def uFz (a : U) : U := fun ρ h Q E => a ρ h (fun d h1 => match d with
  | .ref p => match h1 p with
    | some (.lst ds) => Q (.lst ds) (era h1 p)
    | _ => Q d h1
  | d => Q d h1) E
theorem e_fz {X : Cx} {E : WX} {e : Expr} {u : U} (he : PE X e (tE X.K E u)) : PE X e (tE X.K E (uFz u)) := pe_weak he fun σ H Q h => by
  obtain ⟨ρ, h, M, Q3, E3, ea, ab, q, im, ie⟩ := h
  refine ⟨ρ, h, M, _, E3, ea, ab, q, fun d h1 v M1 H1 q1 a1 s1 r1 => ?_, ie⟩
  cases d with
  | ref p =>
    dsimp only at q1
    split at q1
    · rename_i ds hp
      obtain ⟨z, hz, vs, e2, l⟩ := a1.abs p _ hp
      subst e2
      unfold Rep at r1
      exact im (.lst ds) _ v M1 H1 q1 (a1.drop (Sub.era _ _)) (s1.trans (sy_sub (Sub.era _ _))) (by unfold Rep; exact ⟨p, vs, r1, era_same, hz, l.stay (sy_sub (H := H1) (Sub.era _ _)).st⟩)
    · exact im _ h1 v M1 H1 q1 a1 s1 r1
  | _ => exact im _ h1 v M1 H1 q1 a1 s1 r1
def negD (x : D) (h : DH) (Q : QK) : Prop := match x with
  | .int i => Q (.int (-i)) h
  | _ => False
theorem o_neg {X : Cx} : UnR X (unaryOp .USub) (r1 X.K negD) := by
  intro pins s σ H x v Q I rx ⟨d, h, M, Q3, ab, r, q, im⟩
  unfold negD at q
  split at q
  · rename_i i
    unfold Rep at r
    subst r
    exact un_neg pins s σ H _ v Q I rx ⟨i, rfl, im.int ab q⟩
  · exact q.elim
section
variable {X : Cx} {E : WX}
/-- name += e: numbers, tuples (lists: only what isn't tracked) -/
@[irreducible] def addI (x y : D) (h : DH) (Q : QK) : Prop := match x, y with
  | .int i, .int j => Q (.int (i + j)) h
  | .tup a, .tup b => a.length + b.length ≤ sizeLine ∧ Q (.tup (a ++ b)) h
  | .str a, .str b => a.length + b.length ≤ sizeLine ∧ Q (.str (a ++ b)) h
  | _, _ => False
theorem oi_sub : OpR X (inplaceOp .Sub) (r2 X.K subD) := o_int0 repI iop_sub
theorem oi_mul : OpR X (inplaceOp .Mult) (r2 X.K mulD) := o_int repI iop_mulX
theorem s_doc {x : Str} {j : Nat} {pos pos' : Pos} : PS X (.Expr (.Constant (.str x) j pos) pos') (tS X.K E sNx) := ps_weak ps_doc fun D' σ H h => by
  obtain ⟨ρ, h, M, D3, ea, ab, q, im⟩ := h
  exact im.1 ρ h σ M H q ea ab (Sy.refl h M H)
/-- a number of the module's -/
theorem e_gi {x : Str} {i : Int} {pos : Pos} (hg : Gl X x) (hm : ∃ t, X.mg x = some (.int i t)) (hdb : (x == ("__debug__" : Str)) = false := by decide) : PE X (.Name x pos) (tE X.K E (uC (.int i))) := by
  obtain ⟨t, hm⟩ := hm
  exact pe_weak (pe_glob hg hm (v := .int i) ⟨t, rfl⟩ hdb) fun _ _ _ h => tC_of (fun _ _ => by unfold Rep; rfl) h
end
end L3

set_option Elab.async false
set_option linter.all false
set_option maxRecDepth 100000
set_option maxHeartbeats 4000000
namespace L3
open PySem PySem.Spec PyProof.Rows L2
variable {K : PySem.W.Frag}
/-! zip -/
def seqOf : D → Option (List D × Bool)
  | .tup ds => some (ds, true)
  | .lst ds => some (ds, false)
  | .frz ds => some (ds, false)
  | _ => none
def zipTo (xs ys : List D) : List D := (xs.zip ys).map fun z => D.tup [z.1, z.2]
/-- zip of two that are by value, of one kind -/
def iZp (a : UA) : UI := fun ρ h R E => a ρ h (fun ds h1 => match ds with
  | [.tup xs, .tup ys] => R (zipTo xs ys) always h1
  | [x, y] => match seqOf x, seqOf y with
    | some (xs, false), some (ys, false) => R (zipTo xs ys) always h1
    | _, _ => False
  | _ => False) E
theorem zipTo_at {xs ys : List D} {i : Nat} {d : D} (e : (zipTo xs ys)[i]? = some d) : ∃ x y, xs[i]? = some x ∧ ys[i]? = some y ∧ d = .tup [x, y] := by
  unfold zipTo at e
  rw [List.getElem?_map] at e
  cases hz : (xs.zip ys)[i]? with
  | none => rw [hz] at e; cases e
  | some z =>
    rw [hz] at e
    obtain ⟨h1, h2⟩ := List.getElem?_zip_eq_some.mp hz
    cases e
    exact ⟨z.1, z.2, h1, h2, rfl⟩
theorem zipTo_len (xs ys : List D) : (zipTo xs ys).length = min xs.length ys.length := by
  unfold zipTo
  rw [List.length_map, List.length_zip]
/-- what stays as it is: a list by value -/
def StL (K : PySem.W.Frag) (h : DH) (M : Hp) (a : Addr) (ds : List D) : Prop := ∃ vs, RepL K h M ds vs ∧ ((h a = none ∧ Rd M a (.lst vs)) ∨ FrzL K h M a vs)
theorem StL.stay {h h' : DH} {M M' : Hp} {a : Addr} {ds : List D} (s : Stay h M h' M') (r : StL K h M a ds) : StL K h' M' a ds := by
  obtain ⟨vs, rl, r | r⟩ := r
  · obtain ⟨r', n'⟩ := Rd.stay s r.1 r.2
    exact ⟨vs, rl.stay s, .inl ⟨n', r'⟩⟩
  · exact ⟨vs, rl.stay s, .inr (FrzL.stay s r)⟩
theorem StL.sq {h : DH} {M H : Hp} {a : Addr} {ds : List D} (ab : Ab K h M H) (r : StL K h M a ds) : ∃ vs, RepL K h M ds vs ∧ SqL K H a vs := by
  obtain ⟨vs, rl, r | r⟩ := r
  · exact ⟨vs, rl, .inl (ab.rd r.2)⟩
  · exact ⟨vs, rl, ab.frz r⟩
theorem stl_of {h : DH} {M : Hp} {d : D} {v : V} {ds : List D} (r : Rep K h M d v) (e : seqOf d = some (ds, false)) : ∃ a, v = .ref a ∧ StL K h M a ds := by
  cases d with
  | lst xs =>
    cases e
    unfold Rep at r
    obtain ⟨p, vs, e1, n1, e2, rl⟩ := r
    exact ⟨p, e1, vs, rl, .inl ⟨n1, .inl e2⟩⟩
  | frz xs =>
    cases e
    unfold Rep at r
    obtain ⟨p, vs, e1, e2, rl⟩ := r
    exact ⟨p, e1, vs, rl, .inr e2⟩
  | _ => cases e
theorem wk_zip {a b : Addr} {xs ys : List D} {h : DH} {M H : Hp} (ra : StL K h M a xs) (rb : StL K h M b ys) : Wk K (Itz K a b) (zipTo xs ys) always h M H where
  go := fun i d h' M' H' sy ab _ e => by
    obtain ⟨x, y, ex, ey, rfl⟩ := zipTo_at e
    obtain ⟨vs, rl, sq⟩ := (ra.stay sy.st).sq ab
    obtain ⟨ws, rl2, sq2⟩ := (rb.stay sy.st).sq ab
    obtain ⟨v, e1, rv⟩ := rl.get ex
    obtain ⟨w, e2, rw'⟩ := rl2.get ey
    refine ⟨⟨vs, ws, v, w, sq, sq2, e1, e2⟩, fun z H2 ⟨T, x', y', z1, hT, z2, f1, f2⟩ => ?_⟩
    subst z1; subst z2
    have q1 := f1 vs sq
    have q2 := f2 ws sq2
    rw [e1] at q1; rw [e2] at q2
    cases q1; cases q2
    refine ⟨_, ab.new hT, sy_new ab hT, ?_⟩
    unfold Rep
    refine ⟨T, [v, w], rfl, ab.free hT, upd_same, ?_⟩
    have rr : RepL K h' M' [x, y] [v, w] := by
      unfold RepL
      refine ⟨v, [w], rfl, rv, ?_⟩
      unfold RepL
      exact ⟨w, [], rfl, rw', by unfold RepL; rfl⟩
    exact rr.stay (sy_new ab hT).st
  stop := fun h' M' H' sy ab _ => by
    obtain ⟨vs, rl, sq⟩ := (ra.stay sy.st).sq ab
    obtain ⟨ws, rl2, sq2⟩ := (rb.stay sy.st).sq ab
    refine ⟨vs, ws, sq, sq2, ?_⟩
    rw [zipTo_len, rl.len, rl2.len]
    omega
theorem wk_zipT {a b : Addr} {xs ys : List D} {vs ws : List V} {h : DH} {M H : Hp} (n : h a = none) (r : M a = some (.tup vs)) (rl : RepL K h M xs vs) (n2 : h b = none) (r2 : M b = some (.tup ws)) (rl2 : RepL K h M ys ws) : Wk K (RZ.ItzT K a b) (zipTo xs ys) always h M H where
  go := fun i d h' M' H' sy ab _ e => by
    obtain ⟨x, y, ex, ey, rfl⟩ := zipTo_at e
    obtain ⟨r', n'⟩ := sy.st a _ n r
    obtain ⟨r2', n2'⟩ := sy.st b _ n2 r2
    have sq : SqT K H' a vs := SqT.of (ab.sub _ _ r')
    have sq2 : SqT K H' b ws := SqT.of (ab.sub _ _ r2')
    obtain ⟨v, e1, rv⟩ := (rl.stay sy.st).get ex
    obtain ⟨w, e2, rw'⟩ := (rl2.stay sy.st).get ey
    refine ⟨⟨vs, ws, v, w, sq, sq2, e1, e2⟩, fun z H2 ⟨T, x', y', z1, hT, z2, f1, f2⟩ => ?_⟩
    subst z1; subst z2
    have q1 := f1 vs sq
    have q2 := f2 ws sq2
    rw [e1] at q1; rw [e2] at q2
    cases q1; cases q2
    refine ⟨_, ab.new hT, sy_new ab hT, ?_⟩
    unfold Rep
    refine ⟨T, [v, w], rfl, ab.free hT, upd_same, ?_⟩
    have rr : RepL K h' M' [x, y] [v, w] := by
      unfold RepL
      refine ⟨v, [w], rfl, rv, ?_⟩
      unfold RepL
      exact ⟨w, [], rfl, rw', by unfold RepL; rfl⟩
    exact rr.stay (sy_new ab hT).st
  stop := fun h' M' H' sy ab _ => by
    obtain ⟨r', n'⟩ := sy.st a _ n r
    obtain ⟨r2', n2'⟩ := sy.st b _ n2 r2
    refine ⟨vs, ws, SqT.of (ab.sub _ _ r'), SqT.of (ab.sub _ _ r2'), ?_⟩
    rw [zipTo_len, rl.len, rl2.len]
    omega
section
variable {X : Cx} {E : WX} {a : UA}
theorem i_zp {x y : Expr} {p pos tpos : Pos} {elts : List Expr} {kk : Nat} (hg : Gl X "zip") (hm : X.mg "zip" = none) (ha : PA X [x, y] (tA X.K E a)) (hs : starEach [x, y] X.env = (false, eval x X.env) :: starEach [y] X.env := by rfl) (hpl : (backTo pos (starEach [y] X.env)).any (·.1) = false := by rfl) :
    PI X (.Tuple elts kk tpos) (.Call (.Name "zip" p) [x, y] [] pos) (tI X.K E (iZp a)) := pi_weak (RZ.pi_zipA hg hm ha hs hpl) fun σ H R h => by
  obtain ⟨ρ, h, M, R3, E3, ea, ab, q, im, ie⟩ := h
  refine ⟨ρ, h, M, _, E3, ea, ab, q, fun ds h1 vs M1 H1 q1 a1 s1 r1 => ?_, ie⟩
  dsimp only at q1
  split at q1
  · rename_i xs ys
    obtain ⟨v, w, e1, rv, rw'⟩ := r1.two
    unfold Rep at rv rw'
    obtain ⟨p1, vs1, ev1, n1, m1, l1⟩ := rv
    obtain ⟨p2, vs2, ev2, n2, m2, l2⟩ := rw'
    subst e1; subst ev1; subst ev2
    exact ⟨p1, p2, vs1, vs2, rfl, .inr ⟨SqT.of (a1.sub _ _ m1), SqT.of (a1.sub _ _ m2), im _ always h1 _ M1 H1 q1 a1 s1 (wk_zipT n1 m1 l1 n2 m2 l2)⟩⟩
  · rename_i x y _
    obtain ⟨v, w, e1, rv, rw'⟩ := r1.two
    subst e1
    split at q1
    · rename_i xs ys ex ey
      obtain ⟨p1, ev1, s1'⟩ := stl_of rv ex
      obtain ⟨p2, ev2, s2'⟩ := stl_of rw' ey
      subst ev1; subst ev2
      obtain ⟨vs1, l1, sq1⟩ := s1'.sq a1
      obtain ⟨vs2, l2, sq2⟩ := s2'.sq a1
      exact ⟨p1, p2, vs1, vs2, rfl, .inl ⟨sq1, sq2, im _ always h1 _ M1 H1 q1 a1 s1 (wk_zip s1' s2')⟩⟩
    · exact q1.elim
  · exact q1.elim
end
/-! name += for tuples and ints -/
section
variable {prog : Program} {w : World} {A : Around} {E : Value → Shared → Prop} {s : Shared}
theorem noI_tuple_add : typeLookup (.type "tuple") (dunderI "add") = pure none := by rw [typeLookup_type, builtinLookup_eq_fast]; kernel_rfl
theorem icat_tup {t b : Addr} {vs ws : List Value} {Q : Value → Shared → Prop} (ht : IsTup s.heap t vs.toArray) (hb : IsTup s.heap b ws.toArray)
    (h0 : vs = [] → Q (.ref b) s) (h1 : vs ≠ [] → ws = [] → Q (.ref t) s) (h2 : vs ≠ [] → ws ≠ [] → Q (.ref s.heap.objs.size) { s with heap := s.heap.push { cls := .type "tuple", data := .seq (vs ++ ws).toArray } })
    (hsz : vs.length + ws.length ≤ sizeLine) : wpAny (model prog w) A (inplaceOp .Add (.ref t) (.ref b)) Q E s := by
  obtain ⟨⟨cls, dd, data, sl⟩, ho, hc, n, hd⟩ := id ht
  obtain ⟨⟨cls2, dd2, data2, sl2⟩, ho2, hc2, n2, hd2⟩ := id hb
  simp only at hc hd hc2 hd2
  subst hc hd hc2 hd2
  have e : vs.toArray ++ ws.toArray = (vs ++ ws).toArray := by simp
  refine wpAny_inplaceOp_concat ⟨_, ho, rfl⟩ ⟨_, ho2, rfl⟩ noI_tuple_add noFill_tuple_add seq_tuple_add ?_
  by_cases hv : vs = []
  · subst hv
    exact call_meets PySem.F.slot_tuple_add ⟨_, ho, rfl⟩ PySem.F.entry_tuple_add (PySem.F.args_tuple_add_2 _ _) (tuple_addW0 t b ([] : List Value).toArray ws.toArray n n2 dd dd2 sl sl2 (by simp)) ⟨ho, ho2, h0 rfl⟩
  · by_cases hw : ws = []
    · exact call_meets PySem.F.slot_tuple_add ⟨_, ho, rfl⟩ PySem.F.entry_tuple_add (PySem.F.args_tuple_add_2 _ _) (tuple_addW1 t b vs.toArray ws.toArray n n2 dd dd2 sl sl2 (by simpa using hv) (by simp [hw])) ⟨ho, ho2, h1 hv hw⟩
    · refine call_meets PySem.F.slot_tuple_add ⟨_, ho, rfl⟩ PySem.F.entry_tuple_add (PySem.F.args_tuple_add_2 _ _) (tuple_addW2 t b vs.toArray ws.toArray n n2 dd dd2 sl sl2 (by simpa using hv) (by simpa using hw) (by rw [List.size_toArray, List.size_toArray]; exact hsz)) ⟨ho, ho2, ?_⟩
      rw [e]
      exact h2 hv hw
end
section
variable {X : Cx}
theorem oi_catA : OpR X (inplaceOp .Add) (rCatA X.K) := by
  intro pins s σ H x y v u Q I rx ry h
  obtain ⟨a, b, xs, ys, rfl, rfl, ha, hb, hz, q0, q1, q2⟩ := h
  cases rx
  cases ry
  obtain ⟨its, r1, p1, _⟩ := I.tuple ha
  obtain ⟨its2, r2, p2, _⟩ := I.tuple hb
  have l1 := r1.length
  have l2 := r2.length
  refine icat_tup p1 p2 (fun z => ⟨.ref b, H, I, rfl, q0 ?_⟩) (fun z1 z2 => ⟨.ref a, H, I, rfl, q1 (fun z => z1 ?_) ?_⟩) (fun z1 z2 => ?_) (by omega)
  · exact List.length_eq_zero_iff.mp (by rw [l1, z]; rfl)
  · exact List.length_eq_zero_iff.mp (by rw [← l1, z]; rfl)
  · exact List.length_eq_zero_iff.mp (by rw [l2, z2]; rfl)
  · refine ⟨.ref s.heap.objs.size, _, I.laid (t' := s.toks) (o := .tup (xs ++ ys)) (fun b ob q => Heap.get?_push_of_some _ q) (Nat.le_refl _) ?_, rfl, q2 (fun w => z1 (r1.nil_iff.mpr w)) (fun w => z2 (r2.nil_iff.mpr w)) _ (I.hok.fresh (Nat.le_refl _))⟩
    exact ⟨by rw [List.length_append]; exact hz, _, r1.append r2, IsTup.new _ _⟩
theorem oi_add : OpR X (inplaceOp .Add) (r2 X.K addI) := by
  intro pins s σ H v w u u' Q I rv rw' ⟨x, y, h, M, Q3, ab, rx, ry, q, im⟩
  unfold addI at q
  split at q
  · rename_i i j
    unfold Rep at rx ry
    subst rx; subst ry
    exact iop_add pins s σ H _ _ u u' Q I rv rw' ⟨i, j, rfl, rfl, im.int ab q⟩
  · rename_i a b
    unfold Rep at rx ry
    obtain ⟨p1, vs1, ev1, n1, m1, l1⟩ := rx
    obtain ⟨p2, vs2, ev2, n2, m2, l2⟩ := ry
    rw [ev1] at rv; rw [ev2] at rw'
    refine oi_catA pins s σ H _ _ u u' Q I rv rw' ⟨p1, p2, vs1, vs2, rfl, rfl, SqT.of (ab.sub _ _ m1), SqT.of (ab.sub _ _ m2), by rw [l1.len, l2.len]; exact q.1, fun z => ?_, fun _ z => ?_, fun _ _ p hp => im.tup ab q.2 (RepL.app l2 l1) p hp⟩
    · have ea := l1.nil_iff.mp z
      subst ea
      have q2 : Q3 (.tup b) h := q.2
      exact im.val ab q2 (by unfold Rep; exact ⟨p2, vs2, rfl, n2, m2, l2⟩)
    · have eb := l2.nil_iff.mp z
      subst eb
      have q2 : Q3 (.tup (a ++ [])) h := q.2
      rw [List.append_nil] at q2
      exact im.val ab q2 (by unfold Rep; exact ⟨p1, vs1, rfl, n1, m1, l1⟩)
  · rename_i a b
    unfold Rep at rx ry
    subst rx; subst ry
    exact iop_add_str pins s σ H _ _ u u' Q I rv rw' ⟨a, b, rfl, rfl, q.1, im.str ab q.2⟩
  · exact q.elim
/-! x in y: lists and tuples of any depth -/
def pyItems : PyData → Option (List PyData)
  | .list ds => some ds
  | .tuple ds => some ds
  | _ => none
@[irreducible] def inD (x y : D) (h : DH) (Q : QK) : Prop := match toPy (deref h x), toPy (deref h y) with
  | some a, some b => match pyItems b with
    | some ds => (SeqAt.shaped a = true ∧ SeqAt.shaped b = true) ∧ Q (.bl (ds.any fun z => PyData.eqv z a)) h
    | none => False
  | _, _ => False
@[irreducible] def ninD (x y : D) (h : DH) (Q : QK) : Prop := match toPy (deref h x), toPy (deref h y) with
  | some a, some b => match pyItems b with
    | some ds => (SeqAt.shaped a = true ∧ SeqAt.shaped b = true) ∧ Q (.bl (!ds.any fun z => PyData.eqv z a)) h
    | none => False
  | _, _ => False
theorem o_in (hu : X.A.units + 65 < cLine) : OpR X (compareOp .In) (r2 X.K inD) := by
  intro pins s σ H v w u u' Q I rv rw' ⟨x, y, h, M, Q3, ab, rx, ry, q, im⟩
  unfold inD at q
  split at q
  · rename_i a b e1 e2
    split at q
    · rename_i ds e3
      obtain ⟨as, r1⟩ := Dp.reads I a v u (rx.dpD ab e1) rv
      obtain ⟨bs, r2⟩ := Dp.reads I b w u' (ry.dpD ab e2) rw'
      cases b with
      | list zs =>
        cases e3
        exact SeqAt.in_list_reads r2 r1 (SeqAt.canLay_of_shaped q.1.2) (SeqAt.canLay_of_shaped q.1.1) (room_in_shaped q.1.1 hu) ⟨.bl _, H, I, rfl, im.bl ab q.2⟩
      | tuple zs =>
        cases e3
        exact SeqAt.in_tuple_reads r2 r1 (SeqAt.canLay_of_shaped q.1.2) (SeqAt.canLay_of_shaped q.1.1) (room_in_shaped q.1.1 hu) ⟨.bl _, H, I, rfl, im.bl ab q.2⟩
      | _ => cases e3
    · exact q.elim
  · exact q.elim
theorem o_nin (hu : X.A.units + 65 < cLine) : OpR X (compareOp .NotIn) (r2 X.K ninD) := by
  intro pins s σ H v w u u' Q I rv rw' ⟨x, y, h, M, Q3, ab, rx, ry, q, im⟩
  unfold ninD at q
  split at q
  · rename_i a b e1 e2
    split at q
    · rename_i ds e3
      obtain ⟨as, r1⟩ := Dp.reads I a v u (rx.dpD ab e1) rv
      obtain ⟨bs, r2⟩ := Dp.reads I b w u' (ry.dpD ab e2) rw'
      cases b with
      | list zs =>
        cases e3
        exact SeqAt.notIn_list_reads r2 r1 (SeqAt.canLay_of_shaped q.1.2) (SeqAt.canLay_of_shaped q.1.1) (room_in_shaped q.1.1 hu) ⟨.bl _, H, I, rfl, im.bl ab q.2⟩
      | tuple zs =>
        cases e3
        exact SeqAt.notIn_tuple_reads r2 r1 (SeqAt.canLay_of_shaped q.1.2) (SeqAt.canLay_of_shaped q.1.1) (room_in_shaped q.1.1 hu) ⟨.bl _, H, I, rfl, im.bl ab q.2⟩
      | _ => cases e3
    · exact q.elim
  · exact q.elim
end
/-! what is never reached -/
def sNo : US := fun _ _ _ => False
theorem s_no {X : Cx} {E : WX} {st : Stmt} : PS X st (tS X.K E sNo) := ⟨fun pins s σ H D I h => by
  obtain ⟨ρ, h, M, D3, ea, ab, q, im⟩ := h
  exact q.elim⟩
def uNo : U := fun _ _ _ _ => False
theorem e_no {X : Cx} {E : WX} {e : Expr} : PE X e (tE X.K E uNo) := ⟨fun pins s σ H D I h => by
  obtain ⟨ρ, h, M, Q3, E3, ea, ab, q, im, ie⟩ := h
  exact q.elim⟩
theorem hu65 {k : Nat} {A : Around} (r : Room k A) : A.units + 65 < cLine := by have := r.un; omega
end L3

set_option Elab.async false
set_option linter.all false
set_option maxRecDepth 100000
set_option maxHeartbeats 4000000
namespace L3
open PySem PySem.Spec PyProof.Rows L2
variable {K : PySem.W.Frag}
/-! enumerate: of a list by value -/
def enTo (xs : List D) : List D := (List.range xs.length).zipWith (fun (i : Nat) x => D.tup [.int (i : Int), x]) xs
theorem enTo_at {xs : List D} {i : Nat} {d : D} (e : (enTo xs)[i]? = some d) : ∃ x, xs[i]? = some x ∧ d = .tup [.int (i : Int), x] := by
  unfold enTo at e
  rw [List.getElem?_zipWith] at e
  cases hx : xs[i]? with
  | none => rw [hx] at e; cases h0 : (List.range xs.length)[i]? <;> rw [h0] at e <;> cases e
  | some x =>
    have hi : i < xs.length := (List.getElem?_eq_some_iff.mp hx).1
    rw [hx, List.getElem?_range hi] at e
    cases e
    exact ⟨x, rfl, rfl⟩
theorem enTo_len (xs : List D) : (enTo xs).length = xs.length := by
  unfold enTo
  rw [List.length_zipWith, List.length_range, Nat.min_self]
theorem wk_enum {a : Addr} {xs : List D} {h : DH} {M H : Hp} (ra : StL K h M a xs) : Wk K (Ite K a) (enTo xs) always h M H where
  go := fun i d h' M' H' sy ab _ e => by
    obtain ⟨x, ex, rfl⟩ := enTo_at e
    obtain ⟨vs, rl, sq⟩ := (ra.stay sy.st).sq ab
    obtain ⟨v, e1, rv⟩ := rl.get ex
    refine ⟨⟨vs, v, sq, e1⟩, fun z H2 ⟨T, x', z1, hT, z2, f1⟩ => ?_⟩
    subst z1; subst z2
    have q1 := f1 vs sq
    rw [e1] at q1
    cases q1
    refine ⟨_, ab.new hT, sy_new ab hT, ?_⟩
    unfold Rep
    refine ⟨T, [.int (i : Nat), v], rfl, ab.free hT, upd_same, ?_⟩
    have rr : RepL K h' M' [.int (i : Int), x] [.int (i : Nat), v] := by
      unfold RepL
      refine ⟨.int (i : Nat), [v], rfl, by unfold Rep; rfl, ?_⟩
      unfold RepL
      exact ⟨v, [], rfl, rv, by unfold RepL; rfl⟩
    exact rr.stay (sy_new ab hT).st
  stop := fun h' M' H' sy ab _ => by
    obtain ⟨vs, rl, sq⟩ := (ra.stay sy.st).sq ab
    exact ⟨vs, sq, by rw [enTo_len, rl.len]; exact Nat.le_refl _⟩
/-! divmod -/
def dvmD (xs : List D) (h : DH) (Q : QK) : Prop := match xs with
  | [.int i, .int j] => CDivW i j ∧ Q (.tup [.int (i / j), .int (i % j)]) h
  | _ => False
theorem call_dvmW {X : Cx} : CallR X (.builtin "divmod") (fun xs H Q => ∃ i j, xs = [.int i, .int j] ∧ CDivW i j ∧ ∀ p, H p = none → Q (.ref p) (upd H p (.tup [.int (i / j), .int (i % j)]))) := by
  intro pins s σ H xs us Q I r h
  obtain ⟨i, j, rfl, ⟨h1, h2⟩, q⟩ := h
  obtain ⟨u, w', rfl, ⟨t, rfl⟩, ⟨t', rfl⟩⟩ := vals2 r
  refine divmod_int (by omega) ?_ (.inl (PyProof.noPylong_of_log2 h2))
  rw [Int.fdiv_eq_ediv_of_nonneg i (by omega), Int.fmod_eq_emod_of_nonneg i (by omega)]
  refine ⟨.ref s.heap.objs.size, _, ?_, rfl, q _ (I.hok.fresh (Nat.le_refl _))⟩
  exact I.laid (fun b o e => Heap.get?_push_of_some _ e) (Nat.le_refl _) ⟨by show 2 ≤ sizeLine; decide, [.int (i / j) s.toks, .int (i % j) (s.toks + 1)], .cons ⟨_, rfl⟩ (.cons ⟨_, rfl⟩ .nil), ⟨_, Heap.get?_push_size s.heap rfl, rfl, 0, rfl⟩⟩
theorem c_dvm {X : Cx} : CallR X (.builtin "divmod") (rC X.K dvmD) := by
  intro pins s σ H vs us Q I rv ⟨xs, h, M, Q3, ab, r, q, im⟩
  unfold dvmD at q
  split at q
  · rename_i i j
    obtain ⟨v, w, e1, r1, r2⟩ := r.two
    unfold Rep at r1 r2
    subst e1; subst r1; subst r2
    refine call_dvmW pins s σ H _ us Q I rv ⟨i, j, rfl, q.1, fun p hp => im.tup ab q.2 ?_ p hp⟩
    unfold RepL
    refine ⟨.int (i / j), _, rfl, by unfold Rep; rfl, ?_⟩
    unfold RepL
    exact ⟨.int (i % j), [], rfl, by unfold Rep; rfl, by unfold RepL; rfl⟩
  · exact q.elim
/-! l.index(x): the first place of an equal one -/
@[irreducible] def idxD (x : D) (xs : List D) (h : DH) (Q : QK) : Prop := match deref h x, xs with
  | .lst ds, [y] => match toPyL ds, toPy (deref h y) with
    | some ps, some d => (SeqAt.shaped (.list ps) = true ∧ SeqAt.shaped d = true) ∧ ∃ (j : Nat) (z : PyData), ps[j]? = some z ∧ PyData.eqv z d = true ∧ (∀ (m : Nat) (z' : PyData), m < j → ps[m]? = some z' → PyData.eqv z' d = false) ∧ Q (.int (j : Int)) h
    | _, _ => False
  | _, _ => False
theorem m_idx {X : Cx} (hu : X.A.units + 65 < cLine) : MtR X "list.index" (r1M X.K idxD) := by
  intro pins s σ H x xs v us Q I rx rxs ⟨d, ds, h, M, Q3, ab, r, rl, q, im⟩
  unfold idxD at q
  split at q
  · rename_i es y ed
    obtain ⟨w, e1, rw'⟩ := rl.one
    subst e1
    split at q
    · rename_i ps dd e1 e2
      obtain ⟨⟨sl, sd⟩, j, z, hz, hzj, hno, q⟩ := q
      have ep : toPy (deref h d) = some (.list ps) := by rw [ed]; unfold toPy; rw [e1]; rfl
      obtain ⟨p, ws, ev, _⟩ := r.toLst ab ed
      subst ev
      exact mt_indexD hu pins s σ H _ _ v us Q I rx rxs ⟨p, w, dd, ps, j, z, rfl, rfl, r.dpD ab ep, rw'.dpD ab e2, sl, sd, hz, hzj, hno, im.int ab q⟩
    · exact q.elim
  · exact q.elim
end L3

set_option Elab.async false
set_option linter.all false
set_option maxRecDepth 100000
set_option maxHeartbeats 4000000
namespace L3
open PySem PySem.Spec PyProof.Rows L2
open AutoSeq1 (wpAny_loadPart')
/-! enumerate of a tuple -/
def tit (l : Addr) : Obj := { cls := .type "tuple_iterator", data := .fields #[.ref l, .int 0 0] }
def enO (h : Heap) : Obj := { cls := .type "enumerate", data := .fields #[.none, .bool false, .ref h.objs.size, rawInt 0, .none, .none] }
theorem meets_enT (l : Addr) (items : Array Value) (n : Nat) (dct : Option Addr) (sl : Array (Option Value)) :
    Meets (Builtin.«enumerate.__new__» ⟨[.type "enumerate", .ref l], []⟩) (fun _ R s => s.heap.get? l = some { cls := .type "tuple", dict := dct, data := .seq items n, slots := sl } ∧
      R (.ok (.ret (.ref (s.heap.push (tit l)).objs.size))) { s with heap := (s.heap.push (tit l)).push (enO s.heap) }) :=
  .of_wp fun prog w A R s h => by
    obtain ⟨hp, g, d, tk, os⟩ := s; obtain ⟨ht, h⟩ := h
    have hsub := sub_enumerate
    have hT : Heap.IsTuple (Shared.heap ⟨hp, g, d, tk, os⟩) l items := ⟨_, ht, rfl, n, rfl⟩
    wp_walk using wpAny_loadPart' ht
    refine wpAny_stack_any fun st => wpAny_pure ?_
    split
    · rename_i c _ _ _ _ _
      cases (c == Value.type "enumerate")
      · wp_walk using wpAny_loadPart' ht, wpAny_pyIter_tuple hT
        exact ⟨_, rfl, h⟩
      · wp_walk using wpAny_loadPart' ht, wpAny_pyIter_tuple hT
        exact ⟨_, rfl, h⟩
    · wp_walk using wpAny_loadPart' ht, wpAny_pyIter_tuple hT
      exact ⟨_, rfl, h⟩
section
variable {prog : Program} {w : World} {A : Around} {E : Value → Shared → Prop} {s : Shared}
theorem call_enT {l : Addr} {items : Array Value} {Q : Value → Shared → Prop} (hL : s.heap.IsTuple l items)
    (h : ∀ h', IsEnum h' (s.heap.objs.size + 1) s.heap.objs.size 0 .none → h'.IsTupleIter s.heap.objs.size l 0 → h'.objs.size = s.heap.objs.size + 2 →
      (∀ b o, s.heap.get? b = some o → h'.get? b = some o) → Q (.ref (s.heap.objs.size + 1)) { s with heap := h' }) :
    wpAny (model prog w) A (call (.type "enumerate") [.ref l]) Q E s := by
  obtain ⟨⟨c, dct, dt, sl⟩, hl, hc, n, hd⟩ := hL
  replace hc : c = .type "tuple" := hc
  replace hd : dt = .seq items n := hd
  subst hc hd
  refine callType_new F.called_enumerate (by decide) (F.typeCall_enumerate_1 _) (F.newCall_enumerate_1 _) (fun obj => F.args_object_init_2 obj _) F.entry_enumerate_new
    (meets_enT l items n dct sl) ⟨hl, ?_⟩
  have hz : (s.heap.push (tit l)).objs.size = s.heap.objs.size + 1 := Heap.size_push ..
  show _ ∧ _
  rw [hz]
  have he : IsEnum ((s.heap.push (tit l)).push (enO s.heap)) (s.heap.objs.size + 1) s.heap.objs.size 0 .none := by
    have := Heap.get?_push_size (s.heap.push (tit l)) (o := enO s.heap) rfl
    rw [hz] at this; exact this
  refine ⟨⟨_, he, rfl⟩, h _ he ⟨_, Heap.get?_push_of_some _ (Heap.get?_push_size _ rfl), rfl, rfl⟩ (by rw [Heap.size_push, hz]) fun b o x => Heap.get?_push_of_some _ (Heap.get?_push_of_some _ x)⟩
end
def IteT (K : PySem.W.Frag) (a : Addr) : It :=
  ⟨fun i H => ∃ (xs : List V) (x : V), SqT K H a xs ∧ xs[i]? = some x, fun i H v H' => ∃ T x, v = .ref T ∧ H T = none ∧ H' = upd H T (.tup [.int (i : Nat), x]) ∧ ∀ xs, SqT K H a xs → xs[i]? = some x, fun i H => ∃ xs : List V, SqT K H a xs ∧ xs.length = i⟩
theorem turn_enT {P : Program} {w : World} {K : PySem.W.Frag} {elts : List Expr} {kk : Nat} {tpos : Pos} (a e it : Addr) :
    Turn P w K (.Tuple elts kk tpos) (IteT K a) [e, it] e (fun i h => (∃ old, IsEnum h e it ((i : Nat) : Int) old) ∧ h.IsTupleIter it a i ∧ (e ≠ it ∧ e ≠ a ∧ a ≠ it)) where
  mem := by simp
  obj := fun i h st b hb => by
    obtain ⟨⟨old, he⟩, ⟨o, ho, hc, hd⟩, _⟩ := st
    have e' : b = e ∨ b = it := by simpa using hb
    rcases e' with z | z
    · rw [z]; exact ⟨_, he, fun v q => nomatch q⟩
    · rw [z]; exact ⟨o, ho, fun v q => by rw [hd] at q; cases q⟩
  keep := fun i h h' st k => let ⟨⟨old, he⟩, hi, hne⟩ := st; ⟨⟨old, k e (by simp) _ he⟩, hi.at fun o q => k it (by simp) o q, hne⟩
  item := by
    intro X hP hw hK hc i pins s σ H E I hf st hg
    subst hP hw hK
    obtain ⟨⟨old, he⟩, hit, hne, hea, hai⟩ := st
    obtain ⟨xs, x, hq, hx⟩ := hg
    obtain ⟨its, rv, p, hz⟩ := I.tuple hq
    obtain ⟨u, hu, ru⟩ := rv.get hx
    have hel : e < s.heap.objs.size := Heap.lt_size he
    have hil : it < s.heap.objs.size := by obtain ⟨_, q, _⟩ := hit; exact Heap.lt_size q
    have hh : X.A.in1.handled = none := I.ok.hd hc
    have hlt : i < its.toArray.size := by
      have := (List.getElem?_eq_some_iff.mp hu).1
      simpa using this
    refine wpAny_pyNext_enum_itemD (Draws.tuple hh it a hai its.toArray) he ⟨hit, p⟩ hlt hne (by simp [hne, hea]) fun u' h' tk hP ho st' hT hsz hk => ?_
    have eu : u' = u := by
      have h2 : its.toArray[i]? = some u := by simpa using hu
      rw [h2] at hP; exact (Option.some.inj hP).symm
    subst eu
    refine ⟨_, rfl, wpAny_letOwnedTupleGo_enum (s := { s with heap := h', toks := tk + 1 }) ho fun h'' he' sb => ?_⟩
    have hT2 : h''.get? s.heap.objs.size = some { cls := .type "tuple", data := .seq #[.int i tk, u'] } := (sb.2 _ (Nat.ne_of_gt hel)).trans hT
    have new : ObjOk X.prog X.w (upd H s.heap.objs.size (.tup [.int (i : Nat), x])) h'' s.heap.objs.size (.tup [.int (i : Nat), x]) :=
      ⟨by show 2 ≤ sizeLine; decide, [.int i tk, u'], .cons ⟨_, rfl⟩ (.cons ru .nil), ⟨_, hT2, rfl, _, rfl⟩⟩
    have I1 : Inv X pins σ (upd H s.heap.objs.size (.tup [.int (i : Nat), x])) { s with heap := h'', toks := tk + 1 } :=
      I.turnedNew (ch := [e, it]) (fun b ob hb q => (sb.2 b (fun z => hb (by simp [z]))).trans (hk b ob (fun z => hb (by simp [z])) (fun z => hb (by simp [z])) q)) hf (Nat.le_refl _) new
    refine ⟨.ref s.heap.objs.size, _, I1, rfl, ⟨_, x, rfl, I.hok.fresh (Nat.le_refl _), rfl, fun ys hy => by rw [I.tuple_inj hy hq]; exact hx⟩, ⟨⟨u', ?_⟩, st'.1.at fun o q => (sb.2 it (Ne.symm hne)).trans q, hne, hea, hai⟩, fun b hb => ?_⟩
    · have e1 : ((i + 1 : Nat) : Int) = (i : Int) + 1 := by omega
      rw [e1]; exact he'
    · have hb' : b < s.heap.objs.size := by
        have e' : b = e ∨ b = it := by simpa using hb
        rcases e' with z | z
        · rw [z]; exact hel
        · rw [z]; exact hil
      rw [upd_ne (Nat.ne_of_lt hb')]
      exact (hf b hb).1
  done := by
    intro X hP hw hK hc i pins s σ H E I hf st hg
    subst hP hw hK
    obtain ⟨⟨old, he⟩, hit, hne, hea, hai⟩ := st
    obtain ⟨xs, hq, hx⟩ := hg
    obtain ⟨its, rv, p, hz⟩ := I.tuple hq
    obtain ⟨f0, f1, f2, f3, f4, f5⟩ := hf it (by simp)
    have hl := rv.length
    have hh : X.A.in1.handled = none := I.ok.hd hc
    have hn : i = its.toArray.size := by simp; omega
    subst hn
    exact wpAny_pyNext_enum_endD (Draws.tuple hh it a hai its.toArray) he ⟨hit, p⟩ fun h' eb => ⟨rfl, I.turned (t' := s.toks) (fun b o hb q => eb b o hb q) f0 f1 f3 f4 f5⟩
  self := fun A i s Q E st h => let ⟨⟨_, he⟩, _⟩ := st; wpAny_pyIter_enum he h
end L3
namespace L3
open PySem PySem.Spec PyProof.Rows L2
def iEnA (K : PySem.W.Frag) (ta : TA) : TI := fun σ H R => ta σ H fun vs H1 => ∃ a xs, vs = [.ref a] ∧ ((SqL K H1 a xs ∧ R (Ite K a) H1) ∨ (SqT K H1 a xs ∧ R (IteT K a) H1))
theorem pi_enA {X : Cx} {e : Expr} {ta : TA} {p pos tpos : Pos} {elts : List Expr} {kk : Nat} (hg : Gl X "enumerate") (hm : X.mg "enumerate" = none) (ha : PA X [e] ta) (hs : starEach [e] X.env = [(false, eval e X.env)] := by rfl) :
    PI X (.Tuple elts kk tpos) (.Call (.Name "enumerate" p) [e] [] pos) (iEnA X.K ta) := by
  refine ⟨fun pins s σ H R I h => ?_⟩
  refine Call_ (ld_blt I hg hm boot_enumerate (PyProof.Rows.callWith_type1 (thn (ha.run pos pins s σ H _ I h) fun us s1 ⟨vs, H1, I1, r1, q1⟩ => ?_) hs rfl))
  obtain ⟨a, xs, ex, q1⟩ := q1
  subst ex
  cases r1 with
  | cons r rr =>
    cases rr
    cases r
    have fr : ∀ b, b ∈ [s1.heap.objs.size + 1, s1.heap.objs.size] → FpOk X pins H1 b := fun b hb => by
      have hle : s1.heap.objs.size ≤ b := by
        have : b = s1.heap.objs.size + 1 ∨ b = s1.heap.objs.size := by simpa using hb
        rcases this with z | z <;> rw [z]
        · exact Nat.le_succ _
        · exact Nat.le_refl _
      exact I1.fpOk hle (I1.hok.fresh hle)
    rcases q1 with ⟨hq, q⟩ | ⟨hq, q⟩
    · obtain ⟨its, rv, p', hz⟩ := I1.list hq
      refine call_enumerate_list p'.isList fun h' he hit hsz hk => wpAny_pyIter_enum he ?_
      have I2 : Inv X pins σ H1 { s1 with heap := h' } := I1.kept (t' := s1.toks) hk
      exact ⟨s1.heap.objs.size + 1, [s1.heap.objs.size + 1, s1.heap.objs.size], _, _, H1, rfl, I2, turn_enum a (s1.heap.objs.size + 1) s1.heap.objs.size, ⟨⟨.none, he⟩, hit, Nat.succ_ne_self _⟩, fr, q⟩
    · obtain ⟨its, rv, p', hz⟩ := I1.tuple hq
      have hal : a < s1.heap.objs.size := by obtain ⟨o, ho, _⟩ := id p'; exact Heap.lt_size ho
      refine call_enT (show s1.heap.IsTuple a its.toArray from p') fun h' he hit hsz hk => wpAny_pyIter_enum he ?_
      have I2 : Inv X pins σ H1 { s1 with heap := h' } := I1.kept (t' := s1.toks) hk
      exact ⟨s1.heap.objs.size + 1, [s1.heap.objs.size + 1, s1.heap.objs.size], _, _, H1, rfl, I2, turn_enT a (s1.heap.objs.size + 1) s1.heap.objs.size, ⟨⟨.none, he⟩, hit, Nat.succ_ne_self _, Nat.ne_of_gt (Nat.lt_succ_of_lt hal), Nat.ne_of_lt hal⟩, fr, q⟩
/-- enumerate of a list or a tuple by value -/
def iEn (a : UA) : UI := fun ρ h R E => a ρ h (fun ds h1 => match ds with
  | [x] => match seqOf x with
    | some (xs, _) => R (enTo xs) always h1
    | _ => False
  | _ => False) E
theorem wk_enT {K : PySem.W.Frag} {a : Addr} {xs : List D} {vs : List V} {h : DH} {M H : Hp} (n : h a = none) (r : M a = some (.tup vs)) (rl : RepL K h M xs vs) : Wk K (IteT K a) (enTo xs) always h M H where
  go := fun i d h' M' H' sy ab _ e => by
    obtain ⟨x, ex, rfl⟩ := enTo_at e
    obtain ⟨r', n'⟩ := sy.st a _ n r
    have sq : SqT K H' a vs := SqT.of (ab.sub _ _ r')
    obtain ⟨v, e1, rv⟩ := (rl.stay sy.st).get ex
    refine ⟨⟨vs, v, sq, e1⟩, fun z H2 ⟨T, x', z1, hT, z2, f1⟩ => ?_⟩
    subst z1; subst z2
    have q1 := f1 vs sq
    rw [e1] at q1
    cases q1
    refine ⟨_, ab.new hT, sy_new ab hT, ?_⟩
    unfold Rep
    refine ⟨T, [.int (i : Nat), v], rfl, ab.free hT, upd_same, ?_⟩
    have rr : RepL K h' M' [.int (i : Int), x] [.int (i : Nat), v] := by
      unfold RepL
      refine ⟨.int (i : Nat), [v], rfl, by unfold Rep; rfl, ?_⟩
      unfold RepL
      exact ⟨v, [], rfl, rv, by unfold RepL; rfl⟩
    exact rr.stay (sy_new ab hT).st
  stop := fun h' M' H' sy ab _ => by
    obtain ⟨r', n'⟩ := sy.st a _ n r
    exact ⟨vs, SqT.of (ab.sub _ _ r'), by rw [enTo_len, rl.len]⟩
section
variable {X : Cx} {E : WX} {a : UA}
theorem i_en {x : Expr} {p pos tpos : Pos} {elts : List Expr} {kk : Nat} (hg : Gl X "enumerate") (hm : X.mg "enumerate" = none) (ha : PA X [x] (tA X.K E a)) (hs : starEach [x] X.env = [(false, eval x X.env)] := by rfl) :
    PI X (.Tuple elts kk tpos) (.Call (.Name "enumerate" p) [x] [] pos) (tI X.K E (iEn a)) := pi_weak (pi_enA hg hm ha hs) fun σ H R h => by
  obtain ⟨ρ, h, M, R3, E3, ea, ab, q, im, ie⟩ := h
  refine ⟨ρ, h, M, _, E3, ea, ab, q, fun ds h1 vs M1 H1 q1 a1 s1 r1 => ?_, ie⟩
  dsimp only at q1
  split at q1
  · rename_i x
    obtain ⟨v, e1, rv⟩ := r1.one
    subst e1
    split at q1
    · rename_i xs b ex
      cases b with
      | false =>
        obtain ⟨p1, ev1, s1'⟩ := stl_of rv ex
        subst ev1
        obtain ⟨vs1, l1, sq1⟩ := s1'.sq a1
        exact ⟨p1, vs1, rfl, .inl ⟨sq1, im _ always h1 _ M1 H1 q1 a1 s1 (wk_enum s1')⟩⟩
      | true =>
        cases x with
        | tup ys =>
          cases ex
          unfold Rep at rv
          obtain ⟨p1, vs1, ev1, n1, m1, l1⟩ := rv
          subst ev1
          exact ⟨p1, vs1, rfl, .inr ⟨SqT.of (a1.sub _ _ m1), im _ always h1 _ M1 H1 q1 a1 s1 (wk_enT n1 m1 l1)⟩⟩
        | _ => cases ex
    · exact q1.elim
  · exact q1.elim
end
/-! len(set(t)), t a tuple of ints -/
def tLenSetT (K : PySem.W.Frag) (ta : TE) : TE := fun σ H Q => ta σ H fun x H1 => ∃ (l : Addr) (ns : List Int), x = .ref l ∧ SqT K H1 l (ns.map V.int) ∧ ns.length ≤ 4000 ∧ ∀ out : List Int, out.Nodup → (∀ k, k ∈ out ↔ k ∈ ns) → Q (.int (out.length : Nat)) H1
theorem pe_lenSetT {X : Cx} {a : Expr} {ta : TE} {p p2 q pos : Pos} (hg : Gl X "len") (hm : X.mg "len" = none) (hg2 : Gl X "set") (hm2 : X.mg "set" = none) (ha : PE X a ta) (hc : X.calm = true := by rfl)
    (na : starEach [a] X.env = (false, eval a X.env) :: starEach [] X.env := by rfl) : PE X (.Call (.Name "len" p) [.Call (.Name "set" p2) [a] [] q] [] pos) (tLenSetT X.K ta) := by
  refine ⟨fun pins s σ H Q I h => ?_⟩
  refine Call_ (ld_blt I hg hm boot_len ?_)
  refine PyProof.Rows.callWith_builtin1 (PyProof.Rows.args_cons ?_ rfl) rfl rfl
  refine Call_ (ld_blt I hg2 hm2 boot_set ?_)
  refine PyProof.Rows.callWith_type1 (PyProof.Rows.args_cons (thn (ha.run pins s σ H _ I h) fun v s1 ⟨x, H1, I1, r1, q1⟩ => PyProof.Rows.args_nil ?_) na) na rfl
  obtain ⟨l, ns, rfl, hq, hl, q1⟩ := q1
  cases r1
  obtain ⟨its, r, pt, hz⟩ := I1.tuple hq
  refine call_set_tupI ns (I1.ok.hd hc) pt (by simpa using RZ.intsAre_vals r) (by unfold scanBound; omega) fun h' tk c hS hcn hk => ?_
  refine PyProof.Rows.args_nil ?_
  obtain ⟨o, es, ep, t, ho, hex, hd, _, hnd, hmem, _, hf, hn, _⟩ := hS
  have I2 : Inv X pins σ H1 { s1 with heap := h', toks := tk } := I1.kept hk
  have hlen : (es.toList.map L2.keyOf).length = es.size := by rw [List.length_map, Array.length_toList]
  have q2 := q1 (es.toList.map L2.keyOf) hnd fun k => by rw [← hmem k]; simp
  rw [hlen] at q2
  exact call_len_set ho hex hd hf (by omega) ⟨.int es.size, H1, I2.tok _, ⟨_, rfl⟩, q2⟩
def uLenSet (u : U) : U := fun ρ h Q E => u ρ h (fun d h1 => match d with
  | .tup ds => match ints? ds with
    | some ns => ns.length ≤ 4000 ∧ ∀ out : List Int, out.Nodup → (∀ k, k ∈ out ↔ k ∈ ns) → Q (.int (out.length : Int)) h1
    | none => False
  | _ => False) E
theorem e_lenSet {X : Cx} {E : WX} {a : Expr} {u : U} {p p2 q pos : Pos} (hg : Gl X "len") (hm : X.mg "len" = none) (hg2 : Gl X "set") (hm2 : X.mg "set" = none) (ha : PE X a (tE X.K E u)) (hc : X.calm = true := by rfl)
    (na : starEach [a] X.env = (false, eval a X.env) :: starEach [] X.env := by rfl) : PE X (.Call (.Name "len" p) [.Call (.Name "set" p2) [a] [] q] [] pos) (tE X.K E (uLenSet u)) := pe_weak (pe_lenSetT hg hm hg2 hm2 ha hc na) fun σ H Q h => by
  obtain ⟨ρ, h, M, Q3, E3, ea, ab, q, im, ie⟩ := h
  refine ⟨ρ, h, M, _, E3, ea, ab, q, fun d h1 v M1 H1 q1 a1 s1 r1 => ?_, ie⟩
  dsimp only at q1
  split at q1
  · rename_i ds
    split at q1
    · rename_i ns e1
      rw [ints_eq e1] at r1
      unfold Rep at r1
      obtain ⟨p1, vs1, ev1, n1, m1, l1⟩ := r1
      subst ev1
      have e2 := RepL.ints l1
      subst e2
      exact ⟨p1, ns, rfl, SqT.of (a1.sub _ _ m1), q1.1, fun out h1' h2' => (im.stay s1).int a1 (q1.2 out h1' h2')⟩
    · exact q1.elim
  · exact q1.elim
end L3

set_option Elab.async false
set_option linter.all false
set_option maxRecDepth 100000
set_option maxHeartbeats 4000000
namespace L3
open PySem PySem.Spec PyProof.Rows L2
variable {K : PySem.W.Frag}
/-! the end of a law -/
theorem law_end {sp : Sp3} {H : Hp} {a : Addr} {ns : List Int} (hO : Only H) (hS : SqL K H a (ns.map V.int)) (hq : sp [.frz (ns.map D.int)] (fun _ => none) (fun d _ => d = .bl true) (fun _ _ => False)) : lift K sp [.ref a] H (fun v _ => v = .bl true) fun _ _ _ => False := by
  refine ⟨[.frz (ns.map D.int)], fun _ => none, H, _, _, ?_, ⟨fun _ _ z => (nomatch z), fun _ _ z => z⟩, hq, fun d h' v M' H' q _ _ r => ?_, fun _ _ _ _ z => z.elim⟩
  · unfold RepL
    refine ⟨.ref a, [], rfl, ?_, by unfold RepL; rfl⟩
    unfold Rep
    refine ⟨a, ns.map V.int, rfl, ?_, ?_⟩
    · rcases hS with (q | ⟨o, q⟩) | q
      · rcases hO a with z | ⟨o, xs, z⟩ <;> rw [z] at q <;> cases q
      · exact .inl ⟨rfl, o, q⟩
      · exact .inr q
    · refine RepL.of_get (by simp) fun i d v e1 e2 => ?_
      rw [List.getElem?_map] at e1 e2
      cases hi : ns[i]? with
      | none => rw [hi] at e1; cases e1
      | some k => rw [hi] at e1 e2; cases e1; cases e2; unfold Rep; rfl
  · subst q
    unfold Rep at r
    exact r
theorem walk3 {l : PySem.W.OpenLaw} {n k : Nat} {q : Program} {loose : List Str} {XP : (Str → Option Value) → Heap → Prop} {YP : World → Heap → Prop} {d : DefRec} {x : Str} {sp : Sp3}
    (hn : l.most = some n) (hn2 : n ≤ sizeLine) (hdf : d.params.defaults = []) (hr : Room k callerA)
    (F : ∀ (w : World) (mg : Str → Option Value) (fa : Addr) (h : Heap), YP w h → h.Ns mainGlobals mg → mg d.name = some (.ref fa) →
      ∃ (K : PySem.W.Frag) (fd : FuncData), K.In h ∧ (∀ (s : Shared) (u : Value), BindsTo s fd ⟨[u], []⟩ [(x, u)]) ∧
        ∀ base : Heap, K.In base → base.Ns mainGlobals mg → FnOk l.prog w K mg base (L2.CX l.prog w) k fa fd [x] (lift K sp))
    (hsp : ∀ ns : List Int, ns.length ≤ n → sp [.frz (ns.map D.int)] (fun _ => none) (fun d _ => d = .bl true) (fun _ _ => False)) :
    PySem.W.WalkO q loose XP YP l.row.toRowW d [] (fun f vs => PySem.call f vs) := by
  refine Att.attach_call hn hdf fun w s₀ s₁ mg mb fa o pm cd doc a vs ns G Y ho hd hcd hmg hobj hints hlen hg => ?_
  obtain ⟨K, fd, KX, hb, hF⟩ := F w mg fa _ Y G.T.g hmg
  exact law_call KX G.T.g G.T.b G.T.builtins G.T.nolimit hg hobj hints (Nat.le_trans hlen hn2) hr hF hb (fun H hO hS => law_end hO hS (hsp ns hlen)) fun H e s' z => by
    obtain ⟨_, _, _, _, _, _, _, _, _, _, _, _, z⟩ := z
    exact z
end L3

set_option Elab.async false
set_option linter.all false
set_option maxRecDepth 100000
set_option maxHeartbeats 4000000
namespace L3
open PySem PySem.Spec PyProof.Rows L2
/-! loops over data by invariants -/
theorem lp_from {g : UG} {b : US} {ok : DH → Prop} {D' : DEnds} (I : Nat → DSt → DH → Prop) (hok : ∀ i ρ h, I i ρ h → ok h) : ∀ (rest : List D) (i : Nat) (ρ : DSt) (h : DH), I i ρ h →
    (∀ j d ρ h, rest[j]? = some d → I (i + j) ρ h → ∀ N : DSt → DH → Prop, (∀ ρ' h', I (i + j + 1) ρ' h' → N ρ' h') → g d ρ h (fun ρ' h' => b { D' with nx := N, ct := N, bk := D'.nx } ρ' h')) →
    (∀ ρ h, I (i + rest.length) ρ h → D'.nx ρ h) → lp g b ok D' rest ρ h
  | [], i, ρ, h, hi, _, hd => ⟨hok i ρ h hi, hd ρ h hi⟩
  | d :: rest, i, ρ, h, hi, hs, hd => by
    refine ⟨hok i ρ h hi, ?_⟩
    refine hs 0 d ρ h rfl hi _ fun ρ' h' hi' => ?_
    refine lp_from I hok rest (i + 1) ρ' h' hi' (fun j d ρ h e hj N hN => ?_) (fun ρ h hj => hd ρ h ?_)
    · refine hs (j + 1) d ρ h (by simpa using e) ?_ N (fun ρ' h' z => hN ρ' h' ?_)
      · have e1 : i + 1 + j = i + (j + 1) := by omega
        rw [← e1]; exact hj
      · have e1 : i + 1 + j + 1 = i + (j + 1) + 1 := by omega
        rw [e1]; exact z
    · have e1 : i + 1 + rest.length = i + (d :: rest).length := by rw [List.length_cons]; omega
      rw [← e1]; exact hj
theorem lp_inv {g : UG} {b : US} {ok : DH → Prop} {D' : DEnds} {items : List D} (I : Nat → DSt → DH → Prop) {ρ : DSt} {h : DH} (h0 : I 0 ρ h) (hok : ∀ i ρ h, I i ρ h → ok h)
    (hs : ∀ i d ρ h, items[i]? = some d → I i ρ h → ∀ N : DSt → DH → Prop, (∀ ρ' h', I (i + 1) ρ' h' → N ρ' h') → g d ρ h (fun ρ' h' => b { D' with nx := N, ct := N, bk := D'.nx } ρ' h'))
    (hd : ∀ ρ h, I items.length ρ h → D'.nx ρ h) : lp g b ok D' items ρ h :=
  lp_from I hok items 0 ρ h h0 (fun j d ρ h e hj N hN => hs j d ρ h e (by rw [Nat.zero_add] at hj; exact hj) N (fun ρ' h' z => hN ρ' h' (by rw [Nat.zero_add]; exact z))) (fun ρ h hj => hd ρ h (by rw [Nat.zero_add] at hj; exact hj))
theorem range_at {n i : Nat} {d : D} {f : Nat → D} (e : ((List.range n).map f)[i]? = some d) : i < n ∧ d = f i := by
  rw [List.getElem?_map] at e
  cases hi : (List.range n)[i]? with
  | none => rw [hi] at e; cases e
  | some k =>
    rw [hi] at e
    obtain ⟨hl, hk⟩ := List.getElem?_eq_some_iff.mp hi
    rw [List.length_range] at hl
    rw [List.getElem_range] at hk
    subst hk
    cases e
    exact ⟨hl, rfl⟩
/-- over a range -/
theorem lp_rng {g : UG} {b : US} {D' : DEnds} {n : Nat} {f : Nat → D} (I : Nat → DSt → DH → Prop) {ρ : DSt} {h : DH} (h0 : I 0 ρ h)
    (hs : ∀ i ρ h, i < n → I i ρ h → ∀ N : DSt → DH → Prop, (∀ ρ' h', I (i + 1) ρ' h' → N ρ' h') → g (f i) ρ h (fun ρ' h' => b { D' with nx := N, ct := N, bk := D'.nx } ρ' h'))
    (hd : ∀ ρ h, I n ρ h → D'.nx ρ h) : lp g b always D' ((List.range n).map f) ρ h :=
  lp_inv I h0 (fun _ _ _ _ => trivial) (fun i d ρ h e hi N hN => by
    obtain ⟨hl, rfl⟩ := range_at e
    exact hs i ρ h hl hi N hN) (fun ρ h hi => hd ρ h (by rw [List.length_map, List.length_range] at hi; exact hi))
/-- comprehensions by an invariant: what is made so far, the heap -/
theorem lcl_from {g : UG} {t : UT} {e : U} {ρ0 : DSt} {ok : DH → Prop} (I : Nat → List D → DH → Prop) (Qf : List D → DH → Prop) (hok : ∀ i ys h, I i ys h → ok h) : ∀ (rest : List D) (i : Nat) (acc : List D) (h : DH), I i acc h →
    (∀ j d acc h, rest[j]? = some d → I (i + j) acc h → ∀ (N : D → DH → Prop) (N0 : DH → Prop), (∀ y h', I (i + j + 1) (acc ++ [y]) h' → N y h') → (∀ h', I (i + j + 1) acc h' → N0 h') →
      g d ρ0 h (fun ρ' h' => t ρ' h' (fun k h1 => match k with | true => e ρ' h1 N nE | false => N0 h1) nE)) →
    (∀ acc' h, I (i + rest.length) acc' h → Qf acc' h) → lcl g t e ρ0 ok rest h (fun ys h => Qf (acc ++ ys) h)
  | [], i, acc, h, hi, _, hd => ⟨hok i acc h hi, by
      show Qf (acc ++ []) h
      rw [List.append_nil]; exact hd acc h hi⟩
  | d :: rest, i, acc, h, hi, hs, hd => by
    refine ⟨hok i acc h hi, ?_⟩
    have step : ∀ (acc1 : List D) (h1 : DH), I (i + 1) acc1 h1 → lcl g t e ρ0 ok rest h1 (fun ys h => Qf (acc1 ++ ys) h) := fun acc1 h1 i1 => by
      refine lcl_from I Qf hok rest (i + 1) acc1 h1 i1 (fun j d' acc' h' e' hj N N0 hN hN0 => ?_) (fun acc' h' hj => hd acc' h' ?_)
      · have e1 : i + 1 + j = i + (j + 1) := by omega
        rw [e1] at hj hN hN0
        exact hs (j + 1) d' acc' h' (by simpa using e') hj N N0 hN hN0
      · have e1 : i + 1 + rest.length = i + (d :: rest).length := by rw [List.length_cons]; omega
        rw [e1] at hj
        exact hj
    refine hs 0 d acc h rfl hi (fun y h2 => lcl g t e ρ0 ok rest h2 (fun ys h3 => Qf (acc ++ y :: ys) h3)) (fun h1 => lcl g t e ρ0 ok rest h1 (fun ys h3 => Qf (acc ++ ys) h3)) (fun y h' z => ?_) (fun h' z => step acc h' z)
    have w := step (acc ++ [y]) h' z
    have e1 : (fun ys h3 => Qf ((acc ++ [y]) ++ ys) h3) = fun ys h3 => Qf (acc ++ y :: ys) h3 := by
      funext ys h3; rw [List.append_assoc]; rfl
    rw [e1] at w
    exact w
theorem lcl_inv {g : UG} {t : UT} {e : U} {ρ0 : DSt} {ok : DH → Prop} {items : List D} {h : DH} {Q : List D → DH → Prop} (I : Nat → List D → DH → Prop) (h0 : I 0 [] h) (hok : ∀ i ys h, I i ys h → ok h)
    (hs : ∀ i d acc h, items[i]? = some d → I i acc h → ∀ (N : D → DH → Prop) (N0 : DH → Prop), (∀ y h', I (i + 1) (acc ++ [y]) h' → N y h') → (∀ h', I (i + 1) acc h' → N0 h') →
      g d ρ0 h (fun ρ' h' => t ρ' h' (fun k h1 => match k with | true => e ρ' h1 N nE | false => N0 h1) nE))
    (hd : ∀ acc h, I items.length acc h → Q acc h) : lcl g t e ρ0 ok items h Q := by
  have w := lcl_from (g := g) (t := t) (e := e) (ρ0 := ρ0) I Q hok items 0 [] h h0 (fun j d acc h e hj N N0 hN hN0 => by
    rw [Nat.zero_add] at hj hN hN0
    exact hs j d acc h e hj N N0 hN hN0) (fun acc h hj => hd acc h (by rw [Nat.zero_add] at hj; exact hj))
  exact w
/-- elements that change nothing: those that are kept, and what comes of them -/
theorem lcl_pure {g : UG} {t : UT} {e : U} {ρ0 : DSt} {items : List D} {h : DH} {Q : List D → DH → Prop} (f : D → Option D)
    (hs : ∀ (i : Nat) (d : D), items[i]? = some d → ∀ (N : D → DH → Prop) (N0 : DH → Prop), (∀ y, f d = some y → N y h) → (f d = none → N0 h) → g d ρ0 h (fun ρ' h' => t ρ' h' (fun k h1 => match k with | true => e ρ' h1 N nE | false => N0 h1) nE))
    (hd : Q (items.filterMap f) h) : lcl g t e ρ0 always items h Q := by
  refine lcl_inv (fun i acc h' => h' = h ∧ acc = (items.take i).filterMap f) ⟨rfl, by simp⟩ (fun _ _ _ _ => trivial) (fun i d acc h' e1 ⟨e2, e3⟩ N N0 hN hN0 => ?_) (fun acc h' ⟨e2, e3⟩ => ?_)
  · subst e2
    have et : (items.take (i + 1)).filterMap f = acc ++ (match f d with | some y => [y] | none => []) := by
      rw [List.take_add_one, e1, List.filterMap_append, ← e3]
      cases hf : f d with
      | none => simp [hf]
      | some y => simp [hf]
    refine hs i d e1 N N0 (fun y hy => hN y h' ⟨rfl, ?_⟩) (fun hn => hN0 h' ⟨rfl, ?_⟩)
    · rw [et, hy]
    · rw [et, hn]; simp
  · subst e2
    rw [List.take_length] at e3
    rw [e3]; exact hd
theorem filterMap_some {α β : Type} (f : α → β) (l : List α) : l.filterMap (fun x => some (f x)) = l.map f := by
  induction l with
  | nil => rfl
  | cons a l ih => simp [ih]
/-- without a test -/
theorem lcl_map {g : UG} {e : U} {ρ0 : DSt} {items : List D} {h : DH} {Q : List D → DH → Prop} (f : D → D)
    (hs : ∀ (i : Nat) (d : D), items[i]? = some d → ∀ N : D → DH → Prop, N (f d) h → g d ρ0 h (fun ρ' h' => e ρ' h' N nE)) (hd : Q (items.map f) h) : lcl g yes e ρ0 always items h Q := by
  refine lcl_pure (fun d => some (f d)) (fun i d e1 N N0 hN hN0 => ?_) (by rw [filterMap_some]; exact hd)
  exact hs i d e1 N (hN (f d) rfl)
theorem put_self {h : DH} {p : Addr} {o : DO} (e : h p = some o) : put h p o = h := by
  funext b; unfold put; split
  · rename_i q; rw [q, e]
  · rfl
theorem toPy_ints : ∀ ns : List Int, toPyL (ns.map D.int) = some (ns.map PyData.int)
  | [] => rfl
  | n :: ns => by
    rw [List.map_cons]
    unfold toPyL
    rw [toPy_ints ns]
    rfl
theorem shaped_int (i : Int) : SeqAt.shaped (.int i) = true := by
  unfold SeqAt.shaped; simp [PyData.canLay0, PyData.depth]
theorem canLay_ints : ∀ ns : List Int, PyData.canLayAll0 (ns.map PyData.int) = true
  | [] => by simp [PyData.canLayAll0]
  | n :: ns => by simp [PyData.canLayAll0, PyData.canLay0, canLay_ints ns]
theorem depth_ints : ∀ ns : List Int, PyData.depthAll (ns.map PyData.int) ≤ 1
  | [] => by simp [PyData.depthAll]
  | n :: ns => by
    have := depth_ints ns
    simp [PyData.depthAll, PyData.depth]
    omega
theorem shaped_tup (ns : List Int) : SeqAt.shaped (.tuple (ns.map PyData.int)) = true := by
  have := depth_ints ns
  unfold SeqAt.shaped
  simp [PyData.canLay0, PyData.depth, canLay_ints]
  omega
theorem shaped_lst (ns : List Int) : SeqAt.shaped (.list (ns.map PyData.int)) = true := by
  have := depth_ints ns
  unfold SeqAt.shaped
  simp [PyData.canLay0, PyData.depth, canLay_ints]
  omega
theorem eqv_ints : ∀ ns ms : List Int, PyData.eqvAll (ns.map PyData.int) (ms.map PyData.int) = decide (ns = ms)
  | [], [] => by simp [PyData.eqvAll]
  | [], m :: ms => by simp [PyData.eqvAll]
  | n :: ns, [] => by simp [PyData.eqvAll]
  | n :: ns, m :: ms => by
    have ih := eqv_ints ns ms
    simp only [List.map_cons, PyData.eqvAll, PyData.eqv, ih]
    by_cases h1 : n = m
    · subst h1
      by_cases h2 : ns = ms
      · subst h2; simp
      · simp [h2]
    · simp [h1]
section
variable {h : DH} {Q : QK}
theorem eqd_int (i j : Int) : eqD (.int i) (.int j) h Q ↔ Q (.bl (decide (i = j))) h := by
  unfold eqD
  show ((SeqAt.shaped (.int i) = true ∧ SeqAt.shaped (.int j) = true) ∧ Q (.bl (PyData.eqv (.int i) (.int j))) h) ↔ _
  have e : PyData.eqv (.int i) (.int j) = decide (i = j) := by
    simp only [PyData.eqv]
    by_cases hh : i = j
    · subst hh; simp
    · simp [hh]
  rw [e, shaped_int, shaped_int]
  simp
theorem ned_int (i j : Int) : neD (.int i) (.int j) h Q ↔ Q (.bl (!decide (i = j))) h := by
  unfold neD
  show ((SeqAt.shaped (.int i) = true ∧ SeqAt.shaped (.int j) = true) ∧ Q (.bl (!PyData.eqv (.int i) (.int j))) h) ↔ _
  have e : PyData.eqv (.int i) (.int j) = decide (i = j) := by
    simp only [PyData.eqv]
    by_cases hh : i = j
    · subst hh; simp
    · simp [hh]
  rw [e, shaped_int, shaped_int]
  simp
theorem eqd_tup (ns ms : List Int) : eqD (.tup (ns.map D.int)) (.tup (ms.map D.int)) h Q ↔ Q (.bl (decide (ns = ms))) h := by
  unfold eqD
  have e1 : ∀ xs : List Int, toPy (deref h (.tup (xs.map D.int))) = some (.tuple (xs.map PyData.int)) := fun xs => by
    show toPy (.tup (xs.map D.int)) = _
    unfold toPy
    rw [toPy_ints]; rfl
  rw [e1, e1]
  show ((SeqAt.shaped (.tuple (ns.map PyData.int)) = true ∧ SeqAt.shaped (.tuple (ms.map PyData.int)) = true) ∧ Q (.bl (PyData.eqv (.tuple (ns.map PyData.int)) (.tuple (ms.map PyData.int)))) h) ↔ _
  have e : PyData.eqv (.tuple (ns.map PyData.int)) (.tuple (ms.map PyData.int)) = decide (ns = ms) := by
    simp only [PyData.eqv, eqv_ints]
  rw [e, shaped_tup, shaped_tup]
  simp
theorem ned_tup (ns ms : List Int) : neD (.tup (ns.map D.int)) (.tup (ms.map D.int)) h Q ↔ Q (.bl (!decide (ns = ms))) h := by
  unfold neD
  have e1 : ∀ xs : List Int, toPy (deref h (.tup (xs.map D.int))) = some (.tuple (xs.map PyData.int)) := fun xs => by
    show toPy (.tup (xs.map D.int)) = _
    unfold toPy
    rw [toPy_ints]; rfl
  rw [e1, e1]
  show ((SeqAt.shaped (.tuple (ns.map PyData.int)) = true ∧ SeqAt.shaped (.tuple (ms.map PyData.int)) = true) ∧ Q (.bl (!PyData.eqv (.tuple (ns.map PyData.int)) (.tuple (ms.map PyData.int)))) h) ↔ _
  have e : PyData.eqv (.tuple (ns.map PyData.int)) (.tuple (ms.map PyData.int)) = decide (ns = ms) := by
    simp only [PyData.eqv, eqv_ints]
  rw [e, shaped_tup, shaped_tup]
  simp
end
theorem atI_of {α : Type} {xs : List α} {i : Int} {x : α} (h0 : 0 ≤ i) (e : xs[i.toNat]? = some x) : atI xs i = some x := by
  have w := atI_nat e
  have e1 : ((i.toNat : Nat) : Int) = i := by omega
  rw [e1] at w
  exact w
theorem mulok_right {i j : Int} (h1 : -(2 ^ 64) < j) (h2 : j < 2 ^ 64) : IntMulOk i j := .of_right (intBits_le_64 h1 h2)
theorem mulok_left {i j : Int} (h1 : -(2 ^ 64) < i) (h2 : i < 2 ^ 64) : IntMulOk i j := .of_left (intBits_le_64 h1 h2)
theorem divok {i j : Int} (h1 : 0 < j) (h2 : j < 2 ^ 200) : CDivW i j := wide_div (b := 200) h1 (by omega) (by decide) (by decide)
end L3

set_option Elab.async false
set_option linter.all false
set_option maxRecDepth 100000
set_option maxHeartbeats 4000000
namespace L3
open PySem PySem.Spec PyProof.Rows L2
/-! heaps -/
theorem put_swap {h : DH} {p q : Addr} {o u : DO} (n : p ≠ q) : put (put h p o) q u = put (put h q u) p o := by
  funext b
  unfold put
  by_cases h1 : b = q
  · subst h1; rw [if_pos rfl, if_neg (fun e => n e.symm), if_pos rfl]
  · rw [if_neg h1]
    by_cases h2 : b = p
    · subst h2; rw [if_pos rfl, if_pos rfl]
    · rw [if_neg h2, if_neg h2, if_neg h1]
theorem sub_put {h : DH} {q : Addr} {o : DO} (n : h q = none) : Sub h (put h q o) := (Sub.refl h).put n
theorem drf_lst {h : DH} {q : Addr} {ds : List D} (e : h q = some (.lst ds)) : deref h (.ref q) = .lst ds := by
  show drf q (h q) = _
  rw [e]; rfl
/-! items -/
section
variable {ds es : List D} {i : Int} {x d : D} {h : DH} {Q : QK} {q : Addr}
theorem ixt (e : atI ds i = some d) (k : Q d h) : ixD (.tup ds) (.int i) h Q := by
  unfold ixD
  show (match atI ds i with | some d => Q d h | none => False)
  rw [e]; exact k
theorem ixl (e : atI ds i = some d) (k : Q d h) : ixD (.lst ds) (.int i) h Q := by
  unfold ixD
  show (match atI ds i with | some d => Q d h | none => False)
  rw [e]; exact k
theorem ixf (e : atI ds i = some d) (k : Q d h) : ixD (.frz ds) (.int i) h Q := by
  unfold ixD
  show (match atI ds i with | some d => Q d h | none => False)
  rw [e]; exact k
theorem ixr (hq : h q = some (.lst ds)) (e : atI ds i = some d) (k : Q d h) : ixD (.ref q) (.int i) h Q := by
  unfold ixD
  rw [drf_lst hq]
  show (match atI ds i with | some d => Q d h | none => False)
  rw [e]; exact k
theorem atI_last {α : Type} {xs : List α} {x : α} : atI (xs ++ [x]) (-1) = some x := by
  unfold atI ixN
  rw [if_neg (by omega), List.length_append, List.length_singleton, if_pos (by omega)]
  have e : ((-1 : Int) + ((xs.length + 1 : Nat) : Int)).toNat = xs.length := by omega
  rw [e]
  simp
theorem atI_map {α β : Type} {xs : List α} {f : α → β} {i : Int} {x : α} (h0 : 0 ≤ i) (e : xs[i.toNat]? = some x) : atI (xs.map f) i = some (f x) := atI_of h0 (by rw [List.getElem?_map, e]; rfl)
theorem atI_get {α : Type} {xs : List α} {i : Int} (h0 : 0 ≤ i) (h1 : i.toNat < xs.length) : atI xs i = some xs[i.toNat] := atI_of h0 (List.getElem?_eq_getElem h1)
theorem atI_mget {α β : Type} {xs : List α} {f : α → β} {i : Int} (h0 : 0 ≤ i) (h1 : i.toNat < xs.length) : atI (xs.map f) i = some (f xs[i.toNat]) := atI_map h0 (List.getElem?_eq_getElem h1)
theorem pop_i (hq : h q = some (.lst ds)) (h0 : 0 ≤ i) (h1 : i < ds.length) (e : ds[i.toNat]? = some d) (k : Q d (put h q (.lst (ds.eraseIdx i.toNat)))) : popD (.ref q) [.int i] h Q := by
  unfold popD
  have en : ixN ds.length i = some i.toNat := by
    unfold ixN
    rw [if_pos h0, if_pos h1]
  show (match h q with
    | some (.lst ds) => match ixN ds.length i with
      | some j => match ds[j]? with
        | some d => Q d (put h q (.lst (ds.eraseIdx j)))
        | none => False
      | none => False
    | _ => False)
  rw [hq]
  show (match ixN ds.length i with
      | some j => match ds[j]? with
        | some d => Q d (put h q (.lst (ds.eraseIdx j)))
        | none => False
      | none => False)
  rw [en]
  show (match ds[i.toNat]? with
        | some d => Q d (put h q (.lst (ds.eraseIdx i.toNat)))
        | none => False)
  rw [e]
  exact k
theorem app_i (hq : h q = some (.lst ds)) (hl : ds.length < sizeLine) (k : Q .non (put h q (.lst (ds ++ [d])))) : appD (.ref q) [d] h Q := by
  unfold appD
  show (match h q with | some (.lst ds) => ds.length < sizeLine ∧ Q .non (put h q (.lst (ds ++ [d]))) | _ => False)
  rw [hq]
  exact ⟨hl, k⟩
theorem set_r {N : DH → Prop} {v : D} {j : Nat} (hq : h q = some (.lst ds)) (e : ixN ds.length i = some j) (k : N (put h q (.lst (ds.set j v)))) : setD (.ref q) (.int i) v h N := by
  unfold setD
  show (match h q with | some (.dk kvs) => _ | some (.dt kvs) => _ | some (.lst ds) => _ | _ => False)
  rw [hq]
  show (match ixN ds.length i with | some j => N (put h q (.lst (ds.set j v))) | none => False)
  rw [e]
  exact k
theorem ext_i (hq : h q = some (.lst ds)) (he : deref h x = .lst es) (hl : ds.length + es.length ≤ sizeLine) (k : Q .non (put h q (.lst (ds ++ es)))) : extD (.ref q) [x] h Q := by
  unfold extD
  show (match h q, deref h x with | some (.lst ds), .lst es => ds.length + es.length ≤ sizeLine ∧ Q .non (put h q (.lst (ds ++ es))) | _, _ => False)
  rw [hq, he]
  exact ⟨hl, k⟩
end
section
variable {ds : List D} {h : DH} {Q : QK} {q : Addr}
theorem len_t (k : Q (.int (ds.length : Int)) h) : lenD [.tup ds] h Q := by unfold lenD; exact k
theorem len_l (k : Q (.int (ds.length : Int)) h) : lenD [.lst ds] h Q := by unfold lenD; exact k
theorem len_f (k : Q (.int (ds.length : Int)) h) : lenD [.frz ds] h Q := by unfold lenD; exact k
theorem len_r (hq : h q = some (.lst ds)) (k : Q (.int (ds.length : Int)) h) : lenD [.ref q] h Q := by
  unfold lenD
  dsimp only
  rw [drf_lst hq]
  exact k
theorem mt_r (hq : h q = some (.lst ds)) : (match deref h (.ref q) with | .lst _ => True | _ => False) := by
  rw [drf_lst hq]; trivial
end
/-! slices -/
section
variable {α β : Type} {xs : List α}
theorem cut_map (f : α → β) (lo hi : Option Int) : cut (xs.map f) lo hi = (cut xs lo hi).map f := by
  unfold cut
  rw [List.length_map, List.map_take, List.map_drop]
theorem cut_from {i : Int} (h : 0 ≤ i) : cut xs (some i) none = xs.drop i.toNat := by
  have e : i = ((i.toNat : Nat) : Int) := by omega
  unfold cut
  rw [HT.sIx_none]
  generalize i.toNat = n at e
  subst e
  rw [HT.sIx_nat]
  by_cases hn : n ≤ xs.length
  · rw [Nat.min_eq_left hn, List.take_of_length_le (by rw [List.length_drop]; omega)]
  · rw [Nat.min_eq_right (by omega), List.drop_of_length_le (Nat.le_refl _), List.drop_of_length_le (by omega), List.take_nil]
theorem cut_to {i : Int} (h : 0 ≤ i) : cut xs none (some i) = xs.take i.toNat := by
  have e : i = ((i.toNat : Nat) : Int) := by omega
  unfold cut
  rw [HT.sIx_none]
  generalize i.toNat = n at e
  subst e
  rw [HT.sIx_nat, List.drop_zero, Nat.sub_zero]
  by_cases hn : n ≤ xs.length
  · rw [Nat.min_eq_left hn]
  · rw [Nat.min_eq_right (by omega), List.take_of_length_le (Nat.le_refl _), List.take_of_length_le (by omega)]
theorem cut_mid {a b : Nat} (h1 : a ≤ b) (h2 : b ≤ xs.length) : cut xs (some (a : Int)) (some (b : Int)) = (xs.drop a).take (b - a) := by
  unfold cut
  rw [HT.sIx_nat, HT.sIx_nat, Nat.min_eq_left h2, Nat.min_eq_left (Nat.le_trans h1 h2)]
theorem cut_len_le (lo hi : Option Int) : (cut xs lo hi).length ≤ xs.length := by
  unfold cut
  rw [List.length_take, List.length_drop]
  omega
end
section
variable {ds es : List D} {h : DH} {Q : QK} {q : Addr} {lo hi : Option Int}
theorem sl_t (k : Q (.tup (cut ds lo hi)) h) : slD (.tup ds) lo hi h Q := by unfold slD; exact k
theorem sl_l (k : Q (.lst (cut ds lo hi)) h) : slD (.lst ds) lo hi h Q := by unfold slD; exact k
theorem sl_f (k : Q (.lst (cut ds lo hi)) h) : slD (.frz ds) lo hi h Q := by unfold slD; exact k
theorem sl_r (hq : h q = some (.lst ds)) (k : Q (.lst (cut ds lo hi)) h) : slD (.ref q) lo hi h Q := by
  unfold slD
  rw [drf_lst hq]
  exact k
theorem tup_r (hq : h q = some (.lst ds)) (k : Q (.tup ds) h) : tupD [.ref q] h Q := by
  unfold tupD
  dsimp only
  rw [drf_lst hq]
  exact k
theorem tup_l (k : Q (.tup ds) h) : tupD [.lst ds] h Q := by unfold tupD; exact k
theorem tup_t (k : Q (.tup ds) h) : tupD [.tup ds] h Q := by unfold tupD; exact k
theorem addi_t (hl : ds.length + es.length ≤ sizeLine) (k : Q (.tup (ds ++ es)) h) : addI (.tup ds) (.tup es) h Q := by unfold addI; exact ⟨hl, k⟩
theorem addi_i {i j : Int} (k : Q (.int (i + j)) h) : addI (.int i) (.int j) h Q := by unfold addI; exact k
end
/-! x in ints -/
section
variable {h : DH} {Q : QK}
theorem any_ints (n : Int) : ∀ ns : List Int, (ns.map PyData.int).any (fun z => PyData.eqv z (.int n)) = decide (n ∈ ns)
  | [] => by simp
  | m :: ns => by
    rw [List.map_cons, List.any_cons, any_ints n ns]
    simp only [PyData.eqv]
    by_cases h1 : n = m
    · subst h1; simp
    · have h2 : ¬ m = n := fun e => h1 e.symm
      simp [h1, h2]
theorem toPy_tup (ns : List Int) : toPy (.tup (ns.map D.int)) = some (.tuple (ns.map PyData.int)) := by
  unfold toPy
  rw [toPy_ints]; rfl
theorem toPy_lst (ns : List Int) : toPy (.lst (ns.map D.int)) = some (.list (ns.map PyData.int)) := by
  unfold toPy
  rw [toPy_ints]; rfl
theorem ind_tup (n : Int) (ns : List Int) : inD (.int n) (.tup (ns.map D.int)) h Q ↔ Q (.bl (decide (n ∈ ns))) h := by
  unfold inD
  have e1 : toPy (deref h (.int n)) = some (.int n) := by show toPy (.int n) = _; unfold toPy; rfl
  have e2 : toPy (deref h (.tup (ns.map D.int))) = some (.tuple (ns.map PyData.int)) := toPy_tup ns
  rw [e1, e2]
  show ((SeqAt.shaped (.int n) = true ∧ SeqAt.shaped (.tuple (ns.map PyData.int)) = true) ∧ Q (.bl ((ns.map PyData.int).any fun z => PyData.eqv z (.int n))) h) ↔ _
  rw [any_ints, shaped_int, shaped_tup]
  simp
theorem nind_tup (n : Int) (ns : List Int) : ninD (.int n) (.tup (ns.map D.int)) h Q ↔ Q (.bl (!decide (n ∈ ns))) h := by
  unfold ninD
  have e1 : toPy (deref h (.int n)) = some (.int n) := by show toPy (.int n) = _; unfold toPy; rfl
  have e2 : toPy (deref h (.tup (ns.map D.int))) = some (.tuple (ns.map PyData.int)) := toPy_tup ns
  rw [e1, e2]
  show ((SeqAt.shaped (.int n) = true ∧ SeqAt.shaped (.tuple (ns.map PyData.int)) = true) ∧ Q (.bl (!(ns.map PyData.int).any fun z => PyData.eqv z (.int n))) h) ↔ _
  rw [any_ints, shaped_int, shaped_tup]
  simp
end
section
variable {h : DH} {Q : QK}
theorem eqd_lst (ns ms : List Int) : eqD (.lst (ns.map D.int)) (.lst (ms.map D.int)) h Q ↔ Q (.bl (decide (ns = ms))) h := by
  unfold eqD
  have e1 : ∀ xs : List Int, toPy (deref h (.lst (xs.map D.int))) = some (.list (xs.map PyData.int)) := fun xs => toPy_lst xs
  rw [e1, e1]
  show ((SeqAt.shaped (.list (ns.map PyData.int)) = true ∧ SeqAt.shaped (.list (ms.map PyData.int)) = true) ∧ Q (.bl (PyData.eqv (.list (ns.map PyData.int)) (.list (ms.map PyData.int)))) h) ↔ _
  have e : PyData.eqv (.list (ns.map PyData.int)) (.list (ms.map PyData.int)) = decide (ns = ms) := by
    simp only [PyData.eqv, eqv_ints]
  rw [e, shaped_lst, shaped_lst]
  simp
theorem ned_lst (ns ms : List Int) : neD (.lst (ns.map D.int)) (.lst (ms.map D.int)) h Q ↔ Q (.bl (!decide (ns = ms))) h := by
  unfold neD
  have e1 : ∀ xs : List Int, toPy (deref h (.lst (xs.map D.int))) = some (.list (xs.map PyData.int)) := fun xs => toPy_lst xs
  rw [e1, e1]
  show ((SeqAt.shaped (.list (ns.map PyData.int)) = true ∧ SeqAt.shaped (.list (ms.map PyData.int)) = true) ∧ Q (.bl (!PyData.eqv (.list (ns.map PyData.int)) (.list (ms.map PyData.int)))) h) ↔ _
  have e : PyData.eqv (.list (ns.map PyData.int)) (.list (ms.map PyData.int)) = decide (ns = ms) := by
    simp only [PyData.eqv, eqv_ints]
  rw [e, shaped_lst, shaped_lst]
  simp
end
section
variable {h : DH} {Q : QK} {i j : Int}
theorem lt_i (k : Q (.bl (decide (i < j))) h) : ltD (.int i) (.int j) h Q := by unfold ltD; exact k
theorem gt_i (k : Q (.bl (decide (j < i))) h) : gtD (.int i) (.int j) h Q := by unfold gtD; exact k
theorem le_i (k : Q (.bl (decide (i ≤ j))) h) : leD (.int i) (.int j) h Q := by unfold leD; exact k
theorem ge_i (k : Q (.bl (decide (j ≤ i))) h) : geD (.int i) (.int j) h Q := by unfold geD; exact k
end
section
variable {h : DH} {Q : QK}
theorem ints_of (ns : List Int) : ints? (ns.map D.int) = some ns := by
  induction ns with
  | nil => rfl
  | cons n ns ih => show (ints? (ns.map D.int)).map (n :: ·) = _; rw [ih]; rfl
theorem lt_t {ns ms : List Int} (k : Q (.bl (HT.lexLt ns ms)) h) : ltD (.tup (ns.map D.int)) (.tup (ms.map D.int)) h Q := by
  unfold ltD
  show (match ints? (ns.map D.int), ints? (ms.map D.int) with | some ns, some ms => Q (.bl (HT.lexLt ns ms)) h | _, _ => False)
  rw [ints_of, ints_of]
  exact k
theorem gt_t {ns ms : List Int} (k : Q (.bl (HT.lexLt ms ns)) h) : gtD (.tup (ns.map D.int)) (.tup (ms.map D.int)) h Q := by
  unfold gtD
  show (match ints? (ns.map D.int), ints? (ms.map D.int) with | some ns, some ms => Q (.bl (HT.lexLt ms ns)) h | _, _ => False)
  rw [ints_of, ints_of]
  exact k
theorem idx_r {q : Addr} {ns : List Int} {x : Int} {j : Nat} (hq : h q = some (.lst (ns.map D.int))) (e : ns[j]? = some x) (no : ∀ m, m < j → ns[m]? ≠ some x) (k : Q (.int (j : Int)) h) : idxD (.ref q) [.int x] h Q := by
  unfold idxD
  rw [drf_lst hq]
  show (match toPyL (ns.map D.int), toPy (.int x) with
    | some ps, some d => (SeqAt.shaped (.list ps) = true ∧ SeqAt.shaped d = true) ∧ ∃ (j : Nat) (z : PyData), ps[j]? = some z ∧ PyData.eqv z d = true ∧ (∀ (m : Nat) (z' : PyData), m < j → ps[m]? = some z' → PyData.eqv z' d = false) ∧ Q (.int (j : Int)) h
    | _, _ => False)
  have ex : toPy (.int x) = some (.int x) := by unfold toPy; rfl
  rw [toPy_ints, ex]
  refine ⟨⟨shaped_lst ns, shaped_int x⟩, j, .int x, by rw [List.getElem?_map, e]; rfl, by simp [PyData.eqv], fun m z' hm hz => ?_, k⟩
  rw [List.getElem?_map] at hz
  cases hm2 : ns[m]? with
  | none => rw [hm2] at hz; cases hz
  | some y =>
    rw [hm2] at hz
    cases hz
    have : y ≠ x := fun q => no m hm (by rw [hm2, q])
    simp [PyData.eqv, this]
end
/-! all -/
theorem all_bls {bs : List Bool} {h : DH} {Q : QK} (q : Q (.bl (bs.all id)) h) : allD [.lst (bs.map D.bl)] h Q := by
  unfold allD blsD
  show (match bls? (bs.map D.bl) with | some bs => Q (.bl (bs.all id)) h | none => False)
  rw [bls_map]
  exact q
theorem all_true {ds : List D} {h : DH} {Q : QK} (ha : ∀ d ∈ ds, d = D.bl true) (q : Q (.bl true) h) : allD [.lst ds] h Q := by
  have e : ds = (List.replicate ds.length true).map D.bl := by
    rw [List.map_replicate]
    exact List.eq_replicate_iff.mpr ⟨rfl, ha⟩
  unfold allD blsD
  show (match bls? ds with | some bs => Q (.bl (bs.all id)) h | none => False)
  rw [e, bls_map]
  have e2 : (List.replicate ds.length true).all id = true := by simp
  show Q (.bl ((List.replicate ds.length true).all id)) h
  rw [e2]; exact q
theorem any_bls {bs : List Bool} {h : DH} {Q : QK} (q : Q (.bl (bs.any id)) h) : anyD [.lst (bs.map D.bl)] h Q := by
  unfold anyD blsD
  show (match bls? (bs.map D.bl) with | some bs => Q (.bl (bs.any id)) h | none => False)
  rw [bls_map]
  exact q
/-! what is left of the things -/
theorem filter_ne_len (x : Int) : ∀ {l : List Int}, l.Nodup → l.length ≤ (l.filter (fun y => !decide (y = x))).length + 1
  | [], _ => by simp
  | y :: l, hn => by
    obtain ⟨h1, h2⟩ := List.nodup_cons.mp hn
    by_cases e : y = x
    · subst e
      have e2 : l.filter (fun z => !decide (z = y)) = l := by
        refine List.filter_eq_self.mpr fun z hz => ?_
        have : z ≠ y := fun q => h1 (q ▸ hz)
        simp [this]
      have e3 : (y :: l).filter (fun z => !decide (z = y)) = l := by
        rw [List.filter_cons_of_neg (by simp), e2]
      rw [e3, List.length_cons]
      omega
    · have ih := filter_ne_len x h2
      rw [List.filter_cons_of_pos (by simp [e]), List.length_cons, List.length_cons]
      omega
theorem filter_out_len : ∀ (c : List Int) {l : List Int}, l.Nodup → l.length ≤ (l.filter (fun y => !decide (y ∈ c))).length + c.length
  | [], l, hn => by
    have e : l.filter (fun y => !decide (y ∈ ([] : List Int))) = l := List.filter_eq_self.mpr fun z _ => by simp
    rw [e, List.length_nil]
    omega
  | x :: c, l, hn => by
    have e : l.filter (fun y => !decide (y ∈ x :: c)) = (l.filter (fun y => !decide (y = x))).filter (fun y => !decide (y ∈ c)) := by
      rw [List.filter_filter]
      congr 1
      funext y
      by_cases h1 : y = x <;> by_cases h2 : y ∈ c <;> simp [h1, h2]
    have h1 := filter_ne_len x hn
    have h2 := filter_out_len c (hn.filter (fun y => !decide (y = x)))
    rw [e, List.length_cons]
    omega
theorem map_erase {α β : Type} (f : α → β) : ∀ (l : List α) (i : Nat), (l.map f).eraseIdx i = (l.eraseIdx i).map f
  | [], i => by simp
  | x :: l, 0 => by simp
  | x :: l, i + 1 => by simp [map_erase f l i]
theorem erase_perm {α : Type} : ∀ {l : List α} {i : Nat} (h : i < l.length), (l[i] :: l.eraseIdx i).Perm l
  | x :: l, 0, _ => by simp
  | x :: l, i + 1, h => by
    have hi : i < l.length := by simpa using h
    have ih := erase_perm (l := l) (i := i) hi
    show (l[i] :: x :: l.eraseIdx i).Perm (x :: l)
    exact (List.Perm.swap x l[i] _).trans (ih.cons x)
def ups (n : Nat) : List Int := (List.range n).map fun i : Nat => (i : Int)
theorem ups_len (n : Nat) : (ups n).length = n := by unfold ups; simp
theorem ups_mem {n : Nat} {x : Int} : x ∈ ups n ↔ 0 ≤ x ∧ x < n := by
  unfold ups
  rw [List.mem_map]
  constructor
  · rintro ⟨i, hi, rfl⟩
    have := List.mem_range.mp hi
    omega
  · rintro ⟨h0, h1⟩
    exact ⟨x.toNat, List.mem_range.mpr (by omega), by omega⟩
theorem ups_nodup (n : Nat) : (ups n).Nodup := by
  unfold ups
  rw [List.nodup_iff_pairwise_ne, List.pairwise_map]
  have := List.nodup_range (n := n)
  rw [List.nodup_iff_pairwise_ne] at this
  exact this.imp fun h e => h (by omega)
/-! while by a measure -/
theorem wh_inv {t : UT} {b : US} {D' : DEnds} (I : Nat → DSt → DH → Prop)
    (hs : ∀ m ρ h, I m ρ h → ∀ N : DSt → DH → Prop, (∀ m' ρ' h', m' < m → I m' ρ' h' → N ρ' h') → t ρ h (fun k h1 => match k with | true => b { D' with nx := N, ct := N, bk := D'.nx } ρ h1 | false => D'.nx ρ h1) D'.ex) : ∀ (m : Nat) {ρ : DSt} {h : DH}, I m ρ h → sWh t b D' ρ h := by
  have key : ∀ (m n : Nat) (ρ : DSt) (h : DH), m < n → I m ρ h → whl t b D' n ρ h := by
    intro m n
    induction n generalizing m with
    | zero => intro ρ h hl _; omega
    | succ n ih =>
      intro ρ h hl hi
      exact hs m ρ h hi (whl t b D' n) fun m' ρ' h' hm hi' => ih m' ρ' h' (by omega) hi'
  exact fun m ρ h hi => ⟨m + 1, key m (m + 1) ρ h (by omega) hi⟩
end L3

set_option Elab.async false
set_option linter.all false
set_option maxRecDepth 100000
set_option maxHeartbeats 4000000
namespace Lw
open PySem PySem.Spec PyProof.Rows L2 L3
def u_is_whole : US := (sRt (uAndV (uCB isiD (aC (uV 0) (aC (uC (.ty .int)) aN))) (uNotV (uCB isiD (aC (uV 0) (aC (uC (.ty .bl)) aN))))))
def sp_is_whole : Sp3 := dfn 1 0 u_is_whole
def u_is_thing : US := (sRt (uAndV (uCl sp_is_whole (aC (uV 1) aN)) (uCh leD ltD (uC (.int 0)) (uV 1) (uV 0))))
def sp_is_thing : Sp3 := dfn 2 0 u_is_thing
def u_is_choice : US := (sSq (sIf (uOr (uNot (uTr (uCB isiD (aC (uV 2) (aC (uC (.ty .tup)) aN))))) (uOr (uTb (uO2 neD (uCB lenD (aC (uV 2) aN)) (uV 1))) (uNot (uTr (uCB allD (aC (uVal (fLc (iSq (uV 2)) [3] (gV 3) yes (uCl sp_is_thing (aC (uV 0) (aC (uV 3) aN))))) aN)))))) (sRt (uC (.bl false))) sNx)
  (sRt (uO2 eqD (uLenSet (uV 2)) (uV 1))))
def sp_is_choice : Sp3 := dfn 3 1 u_is_choice
def u_count : US := (sSq (sAs (uC (.int 1)) (gV 2))
  (sSq (sFr (iR1 (aC (uV 1) aN)) (gV 3) (sAu 2 (uO2 subD (uV 0) (uV 3)) mulD))
  (sRt (uV 2))))
def sp_count : Sp3 := dfn 2 2 u_count
def u_choice_at : US := (sSq (sIf (uNot (uTb (uCh leD ltD (uC (.int 0)) (uV 2) (uCl sp_count (aC (uV 0) (aC (uV 1) aN)))))) sNo sNx)
  (sSq (sAs (uTrk (fRg1 (uV 0))) (gV 3))
  (sSq (sAs (uTup aN) (gV 4))
  (sSq (sFr (iR1 (aC (uV 1) aN)) (gV 5) (sSq (sAs (uCB dvmD (aC (uV 2) (aC (uCl sp_count (aC (uO2 subD (uO2 subD (uV 0) (uV 5)) (uC (.int 1))) (aC (uO2 subD (uO2 subD (uV 1) (uV 5)) (uC (.int 1))) aN))) aN))) (gT 2 (gC (gV 6) (gC (gV 2) gN))))
  (sAu 4 (uTup (aC (uMt popD (uV 3) (aC (uV 6) aN)) aN)) addI)))
  (sRt (uV 4))))))
def sp_choice_at : Sp3 := dfn 3 4 u_choice_at
def u_number_of : US := (sSq (sIf (uOr (uNot (uTr (uCB isiD (aC (uV 1) (aC (uC (.ty .tup)) aN))))) (uNot (uTr (uCl sp_is_choice (aC (uV 0) (aC (uCB lenD (aC (uV 1) aN)) (aC (uV 1) aN))))))) sNo sNx)
  (sSq (sAs (uTrk (fRg1 (uV 0))) (gV 2))
  (sSq (sAs (uC (.int 0)) (gV 3))
  (sSq (sFr (iEn (aC (uV 1) aN)) (gT 2 (gC (gV 4) (gC (gV 5) gN))) (sSq (sAs (uMt idxD (uV 2) (aC (uV 5) aN)) (gV 6))
  (sSq (sAu 3 (uO2 mulD (uV 6) (uCl sp_count (aC (uO2 subD (uO2 subD (uV 0) (uV 4)) (uC (.int 1))) (aC (uO2 subD (uO2 subD (uCB lenD (aC (uV 1) aN)) (uV 4)) (uC (.int 1))) aN)))) addI)
  (sEx (uMt popD (uV 2) (aC (uV 6) aN))))))
  (sRt (uV 3))))))
def sp_number_of : Sp3 := dfn 2 5 u_number_of
def u__law_begin : US := (sRt (uDs [((uC (.str "cells")), (uVal (fCB lstF (aC (uSl (uV 0) oN (oS (uC (.int 63)))) aN)))), ((uC (.str "at")), (uC (.int 0))), ((uC (.str "left")), (uC (.int 0))), ((uC (.str "seed")), (uC (.int 1000003)))]))
def sp__law_begin : Sp3 := dfn 1 0 u__law_begin
def u__law_next : US := (sSq (sIf (uAnd (uTb (uO2 eqD (uO2 ixD (uV 0) (uC (.str "left"))) (uC (.int 0)))) (uTb (uO2 ltD (uO2 ixD (uV 0) (uC (.str "at"))) (uCB lenD (aC (uO2 ixD (uV 0) (uC (.str "cells"))) aN))))) (sSq (sAs (uO2 ixD (uO2 ixD (uV 0) (uC (.str "cells"))) (uO2 ixD (uV 0) (uC (.str "at")))) (gV 2))
  (sSq (sDp (uV 0) (uC (.str "at")) (uO2 addD (uO2 ixD (uV 0) (uC (.str "at"))) (uC (.int 1))))
  (sSq (sDp (uV 0) (uC (.str "seed")) (uO2 modD (uO2 addD (uO2 addD (uO2 mulD (uO2 ixD (uV 0) (uC (.str "seed"))) (uC (.int 7368787))) (uO2 modD (uV 2) (uO2 powD (uC (.int 10)) (uC (.int 30))))) (uC (.int 11))) (uC (.int 2305843009213693951))))
  (sDp (uV 0) (uC (.str "left")) (uIf (uTb (uO2 geD (uV 2) (uO2 powD (uC (.int 10)) (uC (.int 18))))) (uV 2) (uC (.int 0))))))) sNx)
  (sSq (sIf (uTb (uO2 gtD (uO2 ixD (uV 0) (uC (.str "left"))) (uC (.int 0)))) (sSq (sAs (uO2 modD (uO2 ixD (uV 0) (uC (.str "left"))) (uV 1)) (gV 3))
  (sSq (sDp (uV 0) (uC (.str "left")) (uO2 fdvD (uO2 ixD (uV 0) (uC (.str "left"))) (uV 1)))
  (sRt (uV 3)))) sNx)
  (sSq (sDp (uV 0) (uC (.str "seed")) (uO2 modD (uO2 addD (uO2 mulD (uO2 ixD (uV 0) (uC (.str "seed"))) (uC (.int 1181783497276652981))) (uC (.int 12345678910987))) (uC (.int 2305843009213693951))))
  (sRt (uO2 modD (uO2 fdvD (uO2 modD (uO2 mulD (uO2 ixD (uV 0) (uC (.str "seed"))) (uO2 ixD (uV 0) (uC (.str "seed")))) (uC (.int 2305843009213693921))) (uC (.int 65537))) (uV 1))))))
def sp__law_next : Sp3 := dfn 2 2 u__law_next
def u__law_many_things : US := (sRt (uO2 ixD (uVal (fLs (aC (uC (.int 1)) (aC (uC (.int 2)) (aC (uC (.int 3)) (aC (uC (.int 4)) (aC (uC (.int 5)) (aC (uO2 addD (uC (.int 1)) (uCl sp__law_next (aC (uV 0) (aC (uC (.int 26)) aN)))) (aC (uO2 addD (uC (.int 7)) (uCl sp__law_next (aC (uV 0) (aC (uC (.int 20)) aN)))) aN))))))))) (uCl sp__law_next (aC (uV 0) (aC (uC (.int 7)) aN)))))
def sp__law_many_things : Sp3 := dfn 1 0 u__law_many_things
def u__law_choice : US := (sSq (sPr 4 5 (aC (uTrk (fRg1 (uV 1))) (aC (uTup aN) aN)))
  (sSq (sFr (iR1 (aC (uV 2) aN)) (gV 3) (sAs (uO2 addD (uV 5) (uTup (aC (uMt popD (uV 4) (aC (uCl sp__law_next (aC (uV 0) (aC (uCB lenD (aC (uV 4) aN)) aN))) aN)) aN))) (gV 5)))
  (sRt (uV 5))))
def sp__law_choice : Sp3 := dfn 3 3 u__law_choice
def u__law_whole : US := (sRt (uAndV (uCB isiD (aC (uV 0) (aC (uC (.ty .int)) aN))) (uAndV (uNotV (uCB isiD (aC (uV 0) (aC (uC (.ty .bl)) aN)))) (uO2 eqD (uV 0) (uV 1)))))
def sp__law_whole : Sp3 := dfn 2 0 u__law_whole
def u__law_all : US := (sSq (sAs (uVal (fLs (aC (uTup aN) aN))) (gV 2))
  (sSq (sFr (iR1 (aC (uV 1) aN)) (gV 3) (sSq (sAs (uTrk (fLs aN)) (gV 4))
  (sSq (sFr (iSq (uV 2)) (gV 5) (sEx (uMt extD (uV 4) (aC (uVal (fLc (iR1 (aC (uV 0) aN)) [6] (gV 6) (uTb (uO2 ninD (uV 6) (uV 5))) (uO2 addD (uV 5) (uTup (aC (uV 6) aN))))) aN))))
  (sAs (uFz (uV 4)) (gV 2)))))
  (sRt (uV 2))))
def sp__law_all : Sp3 := dfn 2 5 u__law_all
def u__law_number : US := (sSq (sAs (uC (.int 0)) (gV 2))
  (sSq (sFr (iEn (aC (uV 1) aN)) (gT 2 (gC (gV 3) (gC (gV 4) gN))) (sSq (sAs (uVal (fLc (iR1 (aC (uV 4) aN)) [6] (gV 6) (uTb (uO2 ninD (uV 6) (uSl (uV 1) oN (oS (uV 3))))) (uV 6))) (gV 5))
  (sAs (uO2 addD (uO2 mulD (uV 2) (uO2 subD (uV 0) (uV 3))) (uCB lenD (aC (uV 5) aN))) (gV 2))))
  (sRt (uV 2))))
def sp__law_number : Sp3 := dfn 2 5 u__law_number
def u__law_told : US := (sSq (sAs (uCl sp_choice_at (aC (uV 0) (aC (uCB lenD (aC (uV 1) aN)) (aC (uV 2) aN)))) (gV 3))
  (sSq (sIf (uOr (uNot (uTr (uCB isiD (aC (uV 3) (aC (uC (.ty .tup)) aN))))) (uOr (uTb (uO2 neD (uV 3) (uV 1))) (uTr (uCB anyD (aC (uVal (fLc (iSq (uV 3)) [4] (gV 4) yes (uCB isiD (aC (uV 4) (aC (uC (.ty .bl)) aN))))) aN))))) (sRt (uC (.bl false))) sNx)
  (sRt (uCl sp__law_whole (aC (uCl sp_number_of (aC (uV 0) (aC (uV 1) aN))) (aC (uV 2) aN))))))
def sp__law_told : Sp3 := dfn 3 2 u__law_told
def u__law_few : US := (sSq (sAs (uO2 ixD (uVal (fLs (aC (uC (.int 1)) (aC (uC (.int 2)) (aC (uC (.int 3)) (aC (uC (.int 4)) (aC (uC (.int 5)) (aC (uC (.int 6)) (aC (uC (.int 9)) (aC (uC (.int 26)) aN)))))))))) (uCl sp__law_next (aC (uV 0) (aC (uC (.int 8)) aN)))) (gV 1))
  (sRt (uTup (aC (uV 1) (aC (uCB minD (aC (uV 1) (aC (uCl sp__law_next (aC (uV 0) (aC (uO2 ixD (uVal (fLs (aC (uC (.int 7)) (aC (uC (.int 4)) (aC (uC (.int 3)) aN))))) (uO2 addD (uCB ofIntD (aC (uO2 gtD (uV 1) (uC (.int 6))) aN)) (uCB ofIntD (aC (uO2 gtD (uV 1) (uC (.int 9))) aN)))) aN))) aN))) aN)))))
def sp__law_few : Sp3 := dfn 1 1 u__law_few
def u__law_great : US := (sSq (sAs (uCl sp__law_many_things (aC (uV 0) aN)) (gV 1))
  (sSq (sAs (uCl sp__law_next (aC (uV 0) (aC (uO2 addD (uV 1) (uC (.int 1))) aN))) (gV 2))
  (sSq (sAs (uCl sp__law_choice (aC (uV 0) (aC (uV 1) (aC (uV 2) aN)))) (gV 3))
  (sSq (sIf (uNot (uTr (uCl sp__law_told (aC (uV 1) (aC (uV 3) (aC (uCl sp__law_number (aC (uV 1) (aC (uV 3) aN))) aN)))))) (sRt (uC (.bl false))) sNx)
  (sSq (sAs (uC (.int 1)) (gV 4))
  (sSq (sFr (iR1 (aC (uV 2) aN)) (gV 5) (sAs (uO2 mulD (uV 4) (uO2 subD (uV 1) (uV 5))) (gV 4)))
  (sSq (sAs (uO2 modD (uO2 addD (uO2 mulD (uCl sp__law_next (aC (uV 0) (aC (uO2 powD (uC (.int 10)) (uC (.int 12))) aN))) (uO2 powD (uC (.int 10)) (uC (.int 15)))) (uCl sp__law_next (aC (uV 0) (aC (uO2 powD (uC (.int 10)) (uC (.int 15))) aN)))) (uV 4)) (gV 6))
  (sSq (sAs (uCl sp_choice_at (aC (uV 1) (aC (uV 2) (aC (uV 6) aN)))) (gV 7))
  (sSq (sIf (uOr (uTb (uO2 neD (uCl sp__law_number (aC (uV 1) (aC (uV 7) aN))) (uV 6))) (uOr (uTb (uO2 neD (uCB lenD (aC (uV 7) aN)) (uV 2))) (uNot (uTr (uCl sp__law_told (aC (uV 1) (aC (uV 7) (aC (uV 6) aN)))))))) (sRt (uC (.bl false))) sNx)
  (sSq (sIf (uAnd (uTb (uO2 ltD (uO2 addD (uV 6) (uC (.int 1))) (uV 4))) (uNot (uTb (uO2 gtD (uCl sp_choice_at (aC (uV 1) (aC (uV 2) (aC (uO2 addD (uV 6) (uC (.int 1))) aN)))) (uV 7))))) (sRt (uC (.bl false))) sNx)
  (sRt (uOrV (uO2 eqD (uV 6) (uC (.int 0))) (uO2 ltD (uCl sp_choice_at (aC (uV 1) (aC (uV 2) (aC (uO2 subD (uV 6) (uC (.int 1))) aN)))) (uV 7))))))))))))))
def sp__law_great : Sp3 := dfn 1 7 u__law_great
def u_law : US := (sSq (sAs (uCl sp__law_begin (aC (uV 0) aN)) (gV 1))
  (sSq (sFr (iR1 (aC (uC (.int 6)) aN)) (gV 2) (sSq (sAs (uCl sp__law_few (aC (uV 1) aN)) (gT 2 (gC (gV 3) (gC (gV 4) gN))))
  (sFr (iEn (aC (uCl sp__law_all (aC (uV 3) (aC (uV 4) aN))) aN)) (gT 2 (gC (gV 5) (gC (gV 6) gN))) (sIf (uNot (uTr (uCl sp__law_told (aC (uV 3) (aC (uV 6) (aC (uV 5) aN)))))) (sRt (uC (.bl false))) sNx))))
  (sRt (uCB allD (aC (uVal (fLc (iR1 (aC (uC (.int 8)) aN)) [2] (gV 2) yes (uCl sp__law_great (aC (uV 1) aN)))) aN)))))
def sp_law : Sp3 := dfn 1 6 u_law
end Lw

set_option Elab.async false
set_option linter.all false
set_option maxRecDepth 100000
set_option maxHeartbeats 4000000
namespace Lw
open PySem PySem.Spec PyProof.Rows L2 L3
/-! draws -/
structure Dr where
  cells : List Int
  at_ : Int
  left : Int
  seed : Int
def Dr.o (s : Dr) : DO := .dk [(.inr "cells", .lst (s.cells.map D.int)), (.inr "at", .int s.at_), (.inr "left", .int s.left), (.inr "seed", .int s.seed)]
structure Dr.Ok (s : Dr) : Prop where
  a0 : 0 ≤ s.at_
  a1 : s.at_ ≤ s.cells.length
  l0 : 0 ≤ s.left
  s0 : 0 ≤ s.seed
  s1 : s.seed < 2305843009213693951
theorem begin_spec {ns : List Int} {h : DH} {Q : QK} {E : XE3} (q : ∀ p s, h p = none → Dr.Ok s → Q (.ref p) (put h p s.o)) : sp__law_begin [.frz (ns.map D.int)] h Q E := by
  refine ⟨rfl, ?_⟩
  refine sl_f ?_
  show (4 ≤ 15 ∧ ∀ p, h p = none → ∃ h2, Sub h2 (put h p _) ∧ Q (.ref p) h2)
  refine ⟨by decide, fun p hp => ?_⟩
  refine ⟨put h p (Dr.o ⟨cut ns none (some 63), 0, 0, 1000003⟩), ?_, q p _ hp ⟨Int.le_refl 0, by show (0 : Int) ≤ ((cut ns none (some 63)).length : Nat); omega, Int.le_refl 0, by show (0 : Int) ≤ 1000003; decide, by show (1000003 : Int) < 2305843009213693951; decide⟩⟩
  have e : Dr.o ⟨cut ns none (some 63), 0, 0, 1000003⟩ = .dk (mrg [] [(.inr "cells", .lst (cut (ns.map D.int) none (some 63))), (.inr "at", .int 0), (.inr "left", .int 0), (.inr "seed", .int 1000003)]) := by
    have e1 : cut (ns.map D.int) none (some 63) = (cut ns none (some 63)).map D.int := by
      unfold cut
      rw [List.length_map, List.map_take, List.map_drop]
    rw [e1]
    rfl
  rw [e]
  exact Sub.refl _
section
variable {d : Addr} {s : Dr} {h : DH} {Q : QK}
theorem ix_cells (hd : h d = some s.o) (q : Q (.lst (s.cells.map D.int)) h) : ixD (.ref d) (.str "cells") h Q := by
  unfold ixD
  have e : deref h (.ref d) = .ref d := by show drf d (h d) = _; rw [hd]; rfl
  rw [e]
  show (match h d with | some o => _ | none => False)
  rw [hd]
  exact q
theorem ix_at (hd : h d = some s.o) (q : Q (.int s.at_) h) : ixD (.ref d) (.str "at") h Q := by
  unfold ixD
  have e : deref h (.ref d) = .ref d := by show drf d (h d) = _; rw [hd]; rfl
  rw [e]
  show (match h d with | some o => _ | none => False)
  rw [hd]
  exact q
theorem ix_left (hd : h d = some s.o) (q : Q (.int s.left) h) : ixD (.ref d) (.str "left") h Q := by
  unfold ixD
  have e : deref h (.ref d) = .ref d := by show drf d (h d) = _; rw [hd]; rfl
  rw [e]
  show (match h d with | some o => _ | none => False)
  rw [hd]
  exact q
theorem ix_seed (hd : h d = some s.o) (q : Q (.int s.seed) h) : ixD (.ref d) (.str "seed") h Q := by
  unfold ixD
  have e : deref h (.ref d) = .ref d := by show drf d (h d) = _; rw [hd]; rfl
  rw [e]
  show (match h d with | some o => _ | none => False)
  rw [hd]
  exact q
theorem set_at {v : Int} {N : DH → Prop} (hd : h d = some s.o) (q : N (put h d (Dr.o { s with at_ := v }))) : setD (.ref d) (.str "at") (.int v) h N := by
  unfold setD
  show (match h d with | some (.dk kvs) => _ | some (.dt kvs) => _ | some (.lst ds) => _ | _ => False)
  rw [hd]
  exact ⟨by show 4 < sizeLine; decide, q⟩
theorem set_left {v : Int} {N : DH → Prop} (hd : h d = some s.o) (q : N (put h d (Dr.o { s with left := v }))) : setD (.ref d) (.str "left") (.int v) h N := by
  unfold setD
  show (match h d with | some (.dk kvs) => _ | some (.dt kvs) => _ | some (.lst ds) => _ | _ => False)
  rw [hd]
  exact ⟨by show 4 < sizeLine; decide, q⟩
theorem set_seed {v : Int} {N : DH → Prop} (hd : h d = some s.o) (q : N (put h d (Dr.o { s with seed := v }))) : setD (.ref d) (.str "seed") (.int v) h N := by
  unfold setD
  show (match h d with | some (.dk kvs) => _ | some (.dt kvs) => _ | some (.lst ds) => _ | _ => False)
  rw [hd]
  exact ⟨by show 4 < sizeLine; decide, q⟩
end
def nextTail : US := (sSq (sIf (uTb (uO2 gtD (uO2 ixD (uV 0) (uC (.str "left"))) (uC (.int 0)))) (sSq (sAs (uO2 modD (uO2 ixD (uV 0) (uC (.str "left"))) (uV 1)) (gV 3))
  (sSq (sDp (uV 0) (uC (.str "left")) (uO2 fdvD (uO2 ixD (uV 0) (uC (.str "left"))) (uV 1)))
  (sRt (uV 3)))) sNx)
  (sSq (sDp (uV 0) (uC (.str "seed")) (uO2 modD (uO2 addD (uO2 mulD (uO2 ixD (uV 0) (uC (.str "seed"))) (uC (.int 1181783497276652981))) (uC (.int 12345678910987))) (uC (.int 2305843009213693951))))
  (sRt (uO2 modD (uO2 fdvD (uO2 modD (uO2 mulD (uO2 ixD (uV 0) (uC (.str "seed"))) (uO2 ixD (uV 0) (uC (.str "seed")))) (uC (.int 2305843009213693921))) (uC (.int 65537))) (uV 1)))))
theorem tail_spec {d : Addr} {s : Dr} {many : Int} {x : Option D} {h : DH} {Q : QK} {E : XE3} (hd : h d = some s.o) (ok : s.Ok) (h0 : 0 < many) (h1 : many < 2 ^ 200)
    (q : ∀ i s', Dr.Ok s' → 0 ≤ i → i < many → Q (.int i) (put h d s'.o)) : nextTail (dEnds Q E) [some (.ref d), some (.int many), x, none] h := by
  refine ix_left hd ?_
  refine gt_i ?_
  show (match decide (0 < s.left) with | true => _ | false => _)
  cases hl : decide (0 < s.left) with
  | true =>
    have hl := of_decide_eq_true hl
    refine ix_left hd ?_
    refine ⟨h0, ?_⟩
    refine ix_left hd ?_
    refine ⟨divok h0 h1, ?_⟩
    refine set_left hd ?_
    refine ⟨_, Sub.refl _, q _ _ ⟨ok.a0, ok.a1, Int.ediv_nonneg ok.l0 (by omega), ok.s0, ok.s1⟩ (Int.emod_nonneg _ (by omega)) (Int.emod_lt_of_pos _ h0)⟩
  | false =>
    refine ix_seed hd ?_
    refine ⟨mulok_right (by decide) (by decide), ?_⟩
    refine ⟨(by show (0 : Int) < _; decide), ?_⟩
    refine set_seed hd ?_
    have hp : put h d (Dr.o { s with seed := (s.seed * 1181783497276652981 + 12345678910987) % 2305843009213693951 }) d = some (Dr.o { s with seed := (s.seed * 1181783497276652981 + 12345678910987) % 2305843009213693951 }) := put_same
    have b0 : 0 ≤ (s.seed * 1181783497276652981 + 12345678910987) % 2305843009213693951 := Int.emod_nonneg _ (by decide)
    have b1 : (s.seed * 1181783497276652981 + 12345678910987) % 2305843009213693951 < 2305843009213693951 := Int.emod_lt_of_pos _ (by decide)
    refine ix_seed hp ?_
    refine ix_seed hp ?_
    refine ⟨mulok_right (by show _ < (s.seed * 1181783497276652981 + 12345678910987) % 2305843009213693951; omega) (by show (s.seed * 1181783497276652981 + 12345678910987) % 2305843009213693951 < _; omega), ?_⟩
    refine ⟨(by show (0 : Int) < _; decide), ?_⟩
    refine ⟨divok (by decide) (by decide), ?_⟩
    refine ⟨h0, ?_⟩
    exact ⟨_, Sub.refl _, q _ _ ⟨ok.a0, ok.a1, ok.l0, b0, b1⟩ (Int.emod_nonneg _ (by omega)) (Int.emod_lt_of_pos _ h0)⟩
theorem next_spec {d : Addr} {s : Dr} {many : Int} {h : DH} {Q : QK} {E : XE3} (hd : h d = some s.o) (ok : s.Ok) (h0 : 0 < many) (h1 : many < 2 ^ 200)
    (q : ∀ i s', Dr.Ok s' → 0 ≤ i → i < many → Q (.int i) (put h d s'.o)) : sp__law_next [.ref d, .int many] h Q E := by
  refine ⟨rfl, ?_⟩
  refine ix_left hd ?_
  refine (eqd_int _ _).mpr ?_
  have tl : nextTail (dEnds Q E) [some (.ref d), some (.int many), none, none] h := tail_spec hd ok h0 h1 q
  show (match decide (s.left = 0) with | true => _ | false => _)
  cases h2 : decide (s.left = 0) with
  | false => exact tl
  | true =>
    refine ix_at hd ?_
    refine ix_cells hd ?_
    refine len_l ?_
    refine lt_i ?_
    show (match decide (s.at_ < ((s.cells.map D.int).length : Int)) with | true => _ | false => _)
    cases h3 : decide (s.at_ < ((s.cells.map D.int).length : Int)) with
    | false => exact tl
    | true =>
      have h3 := of_decide_eq_true h3
      rw [List.length_map] at h3
      refine ix_cells hd ?_
      refine ix_at hd ?_
      have a0 := ok.a0
      have hlt : s.at_.toNat < s.cells.length := by omega
      have hx : atI (s.cells.map D.int) s.at_ = some (.int s.cells[s.at_.toNat]) := atI_of a0 (by rw [List.getElem?_map, List.getElem?_eq_getElem hlt]; rfl)
      generalize s.cells[s.at_.toNat] = c at hx
      refine ixl hx ?_
      refine ix_at hd ?_
      refine set_at hd ?_
      have hp1 : put h d (Dr.o { s with at_ := s.at_ + 1 }) d = some (Dr.o { s with at_ := s.at_ + 1 }) := put_same
      refine ix_seed hp1 ?_
      refine ⟨mulok_right (by decide) (by decide), ?_⟩
      refine ⟨⟨by decide, by decide, by decide⟩, ?_⟩
      refine ⟨(by show (0 : Int) < _; decide), ?_⟩
      refine ⟨(by show (0 : Int) < _; decide), ?_⟩
      refine set_seed hp1 ?_
      rw [put_put]
      generalize hse : (s.seed * 7368787 + c % _ + 11) % 2305843009213693951 = se
      have b0 : 0 ≤ se := by rw [← hse]; exact Int.emod_nonneg _ (by decide)
      have b1 : se < 2305843009213693951 := by rw [← hse]; exact Int.emod_lt_of_pos _ (by decide)
      refine ⟨⟨by decide, by decide, by decide⟩, ?_⟩
      have fin : ∀ l : Int, 0 ≤ l → setD (.ref d) (.str "left") (.int l) (put h d (Dr.o { s with at_ := s.at_ + 1, seed := se })) (fun h4 => nextTail (dEnds Q E) [some (.ref d), some (.int many), some (.int c), none] h4) := fun l hl => by
        refine set_left put_same ?_
        rw [put_put]
        refine tail_spec put_same ⟨by show 0 ≤ s.at_ + 1; omega, by show s.at_ + 1 ≤ (s.cells.length : Int); omega, hl, b0, b1⟩ h0 h1 fun i s' ok' i0 i1 => ?_
        rw [put_put]
        exact q i s' ok' i0 i1
      refine ge_i ?_
      show (match decide (_ ≤ c) with | true => _ | false => _)
      cases h4 : decide ((10 : Int) ^ (18 : Int).toNat ≤ c) with
      | true => exact fin c (by
          have := of_decide_eq_true h4
          have e : (10 : Int) ^ (18 : Int).toNat = 1000000000000000000 := by decide
          omega)
      | false => exact fin 0 (Int.le_refl 0)
/-- the draws stand at p, the rest as in h0 -/
def Ds (h0 : DH) (p : Addr) (h : DH) : Prop := ∃ s, Dr.Ok s ∧ h = put h0 p s.o
theorem Ds.next {h0 h : DH} {p : Addr} {many : Int} {Q : QK} {E : XE3} (d : Ds h0 p h) (h1 : 0 < many) (h2 : many < 2 ^ 200) (q : ∀ i h', Ds h0 p h' → 0 ≤ i → i < many → Q (.int i) h') : sp__law_next [.ref p, .int many] h Q E := by
  obtain ⟨s, ok, rfl⟩ := d
  refine next_spec put_same ok h1 h2 fun i s' ok' i0 i1 => ?_
  rw [put_put]
  exact q i _ ⟨s', ok', rfl⟩ i0 i1
theorem Ds.apart {h0 h : DH} {p q : Addr} (d : Ds h0 p h) (n : h q = none) : q ≠ p ∧ h0 q = none := by
  obtain ⟨s, ok, rfl⟩ := d
  have e : q ≠ p := fun e => by subst e; rw [put_same] at n; cases n
  rw [put_ne e] at n
  exact ⟨e, n⟩
theorem Ds.free {h0 h : DH} {p q : Addr} (d : Ds h0 p h) (e : q ≠ p) (n : h0 q = none) : h q = none := by
  obtain ⟨s, ok, rfl⟩ := d
  rw [put_ne e]; exact n
/-- with another object -/
theorem Ds.with_ {h0 h : DH} {p q : Addr} {o : DO} (d : Ds h0 p h) (n : q ≠ p) : Ds (put h0 q o) p (put h q o) := by
  obtain ⟨s, ok, rfl⟩ := d
  exact ⟨s, ok, put_swap fun e => n e.symm⟩
theorem Ds.part {h0 h : DH} {p q : Addr} {o : DO} (d : Ds (put h0 q o) p h) (n : q ≠ p) : ∃ h1, Ds h0 p h1 ∧ h = put h1 q o := by
  obtain ⟨s, ok, rfl⟩ := d
  exact ⟨_, ⟨s, ok, rfl⟩, put_swap n⟩
theorem Ds.at {h0 h : DH} {p q : Addr} {o : DO} (d : Ds h0 p h) (n : q ≠ p) (e : h0 q = some o) : h q = some o := by
  obtain ⟨s, ok, rfl⟩ := d
  rw [put_ne n]; exact e
/-- next, another object standing by -/
theorem Ds.nextW {h0 h1 : DH} {p q : Addr} {o : DO} {many : Int} {Q : QK} {E : XE3} (d : Ds h0 p h1) (n : q ≠ p) (hm1 : 0 < many) (hm2 : many < 2 ^ 200) (k : ∀ i h', Ds h0 p h' → 0 ≤ i → i < many → Q (.int i) (put h' q o)) : sp__law_next [.ref p, .int many] (put h1 q o) Q E := by
  refine (d.with_ (o := o) n).next hm1 hm2 fun i h' d' i0 i1 => ?_
  obtain ⟨h2, d2, rfl⟩ := d'.part n
  exact k i h2 d2 i0 i1
theorem begin_ds {ns : List Int} {h : DH} {Q : QK} {E : XE3} (q : ∀ p h', h p = none → Ds h p h' → Q (.ref p) h') : sp__law_begin [.frz (ns.map D.int)] h Q E :=
  begin_spec fun p s hp ok => q p _ hp ⟨s, ok, rfl⟩
/-! drawn choices -/
theorem many_spec {h0 h : DH} {p : Addr} {Q : QK} {E : XE3} (d : Ds h0 p h) (q : ∀ n h', Ds h0 p h' → 1 ≤ n → n ≤ 26 → Q (.int n) h') : sp__law_many_things [.ref p] h Q E := by
  refine ⟨rfl, ?_⟩
  refine d.next (by decide) (by decide) fun a h1 d1 a0 a1 => ?_
  refine d1.next (by decide) (by decide) fun b h2 d2 b0 b1 => ?_
  refine ⟨by show (7 : Nat) ≤ sizeLine; decide, ?_⟩
  refine d2.next (by decide) (by decide) fun c h3 d3 c0 c1 => ?_
  have hc : c = 0 ∨ c = 1 ∨ c = 2 ∨ c = 3 ∨ c = 4 ∨ c = 5 ∨ c = 6 := by omega
  rcases hc with rfl | rfl | rfl | rfl | rfl | rfl | rfl <;> refine ixl (atI_of (by decide) rfl) ⟨_, Sub.refl _, q _ _ d3 ?_ ?_⟩ <;> omega
/-- a choice: k unlike things of n -/
def IsCh (n k : Int) (c : List Int) : Prop := (c.length : Int) = k ∧ (∀ x ∈ c, 0 ≤ x ∧ x < n) ∧ c.Nodup
theorem choice_spec {h0 h : DH} {p : Addr} {n k : Int} {Q : QK} {E : XE3} (d : Ds h0 p h) (k0 : 0 ≤ k) (k1 : k ≤ n) (n1 : n ≤ 26) (q : ∀ c h', Ds h0 p h' → IsCh n k c → Q (.tup (c.map D.int)) h') : sp__law_choice [.ref p, .int n, .int k] h Q E := by
  refine ⟨rfl, ?_⟩
  refine ⟨RgOk.of_le (by omega) (by omega) (by omega) (by omega), fun t ht => ?_⟩
  obtain ⟨tp, t0⟩ := d.apart ht
  show 0 ≤ sizeLine ∧ _
  refine ⟨by decide, ?_⟩
  refine ⟨by omega, ?_⟩
  have er : rgD 0 n = (ups n.toNat).map D.int := by
    unfold rgD ups
    rw [List.map_map, Int.sub_zero]
    refine List.map_congr_left fun i _ => ?_
    show D.int (0 + (i : Int)) = D.int (i : Int)
    rw [Int.zero_add]
  rw [er]
  refine lp_rng (fun i ρ h' => ∃ (h1 : DH) (left c : List Int) (x : Option D), Ds h0 p h1 ∧ h' = put h1 t (.lst (left.map D.int)) ∧ ρ = [some (.ref p), some (.int n), some (.int k), x, some (.ref t), some (.tup (c.map D.int))] ∧ c.length = i ∧ left.length + i = n.toNat ∧ (∀ y ∈ c, 0 ≤ y ∧ y < n) ∧ (∀ y ∈ left, 0 ≤ y ∧ y < n) ∧ (c ++ left).Nodup) ⟨h, ups n.toNat, [], none, d, rfl, rfl, rfl, by rw [ups_len]; rfl, (fun y hy => by cases hy), (fun y hy => by have := ups_mem.mp hy; omega), by rw [List.nil_append]; exact ups_nodup _⟩ (fun i ρ h' hi ⟨h1, left, c, x, d1, e1, e2, hc, hl, bc, bl, hn⟩ N hN => ?_) (fun ρ h' ⟨h1, left, c, x, d1, e1, e2, hc, hl, bc, bl, hn⟩ => ?_)
  · subst e1; subst e2
    have hz := sizeLine_eq
    have ht1 : put h1 t (.lst (left.map D.int)) t = some (.lst (left.map D.int)) := put_same
    refine ⟨mt_r ht1, ?_⟩
    refine len_r ht1 ?_
    rw [List.length_map]
    refine d1.nextW tp (by omega) (by omega) fun a h2 d2 a0 a1 => ?_
    have al : a.toNat < left.length := by omega
    refine pop_i put_same a0 (by rw [List.length_map]; exact a1) (by rw [List.getElem?_map, List.getElem?_eq_getElem al]; rfl) ?_
    rw [put_put]
    show 1 ≤ sizeLine ∧ _
    refine ⟨by decide, ?_⟩
    refine ⟨by simp; omega, ?_⟩
    refine hN _ _ ⟨h2, left.eraseIdx a.toNat, c ++ [left[a.toNat]], some (.int (i : Int)), d2, ?_, ?_, ?_, ?_, ?_, ?_, ?_⟩
    · rw [map_erase]
    · rw [List.map_append]; rfl
    · rw [List.length_append, hc]; rfl
    · rw [List.length_eraseIdx_of_lt al]; omega
    · intro y hy
      rcases List.mem_append.mp hy with hy | hy
      · exact bc y hy
      · rw [List.mem_singleton] at hy; subst hy; exact bl _ (List.getElem_mem al)
    · intro y hy
      exact bl y (List.mem_of_mem_eraseIdx hy)
    · have hp : (c ++ left).Perm (c ++ [left[a.toNat]] ++ left.eraseIdx a.toNat) := by
        rw [List.append_assoc]
        refine List.Perm.append_left c ?_
        rw [List.singleton_append]
        exact (erase_perm al).symm
      exact hp.nodup hn
  · subst e1; subst e2
    refine ⟨h1, sub_put (d1.free tp t0), q c h1 d1 ⟨by omega, bc, ?_⟩⟩
    exact (List.nodup_append.mp hn).1
/-! count: the product of k numbers from n down -/
def cnt (n : Int) : Nat → Int
  | 0 => 1
  | k + 1 => cnt n k * (n - k)
theorem count_spec {n k : Int} {h : DH} {Q : QK} {E : XE3} (h0 : 0 ≤ k) (h1 : k ≤ 1000) (h2 : -1000 ≤ n) (h3 : n ≤ 1000) (q : Q (.int (cnt n k.toNat)) h) : sp_count [.int n, .int k] h Q E := by
  refine ⟨rfl, ?_⟩
  show (-(2 ^ 62) ≤ k ∧ k < 2 ^ 62) ∧ lp _ _ _ _ _ _ _
  refine ⟨by omega, ?_⟩
  refine lp_rng (fun i ρ h' => h' = h ∧ ∃ x, ρ = [some (.int n), some (.int k), some (.int (cnt n i)), x]) ⟨rfl, none, rfl⟩ (fun i ρ h' hi ⟨e1, x, e2⟩ N hN => ?_) (fun ρ h' ⟨e1, x, e2⟩ => ?_)
  · subst e1; subst e2
    show IntMulOk _ _ ∧ N _ _
    refine ⟨mulok_right (by omega) (by omega), hN _ _ ⟨rfl, some (.int i), rfl⟩⟩
  · subst e1; subst e2
    exact ⟨h', Sub.refl _, q⟩
/-! any things -/
def Kn : D → Prop
  | .non | .bl _ | .int _ | .str _ | .tup _ | .lst _ | .dic _ => True
  | _ => False
def Okd : D → Prop
  | .non | .bl _ | .int _ | .str _ | .lst _ | .dic _ => True
  | .tup ds => (∀ d ∈ ds, Kn d) ∧ ds.length ≤ 4000
  | _ => False
def thg (n : Int) : D → Bool
  | .int i => decide (0 ≤ i ∧ i < n)
  | _ => false
def toI : D → Int
  | .int i => i
  | _ => 0
def isch (n k : Int) : D → Bool
  | .tup ds => decide ((ds.length : Int) = k) && (ds.all (thg n) && decide ((ds.map toI).Nodup))
  | _ => false
theorem isch_tup {n k : Int} {ds : List D} : isch n k (.tup ds) = (decide ((ds.length : Int) = k) && (ds.all (thg n) && decide ((ds.map toI).Nodup))) := rfl
theorem thg_int {n : Int} {d : D} (h : thg n d = true) : d = .int (toI d) := by
  cases d <;> first | rfl | cases h
theorem thg_all {n : Int} {ds : List D} (h : ∀ d ∈ ds, thg n d = true) : ds = (ds.map toI).map D.int := by
  rw [List.map_map]
  conv => lhs; rw [← List.map_id ds]
  exact List.map_congr_left fun d hd => thg_int (h d hd)
theorem len_le_of_sub : ∀ {out ns : List Int}, out.Nodup → (∀ k ∈ out, k ∈ ns) → out.length ≤ ns.length
  | [], _, _, _ => Nat.zero_le _
  | a :: o, ns, hn, hs => by
    obtain ⟨h1, h2⟩ := List.nodup_cons.mp hn
    have ha : a ∈ ns := hs a (by simp)
    have ih := len_le_of_sub (out := o) (ns := ns.erase a) h2 fun k hk => (List.mem_erase_of_ne (show k ≠ a from fun e => h1 (by rw [← e]; exact hk))).mpr (hs k (by simp [hk]))
    rw [List.length_erase_of_mem ha] at ih
    have : 0 < ns.length := List.length_pos_of_mem ha
    rw [List.length_cons]
    omega
theorem nodup_of_len : ∀ {ns out : List Int}, out.Nodup → (∀ k, k ∈ out ↔ k ∈ ns) → out.length = ns.length → ns.Nodup
  | [], _, _, _, _ => List.nodup_nil
  | a :: l, out, hn, hm, hl => by
    have ha : a ∈ out := (hm a).mpr (by simp)
    have hal : a ∉ l := fun h => by
      have := len_le_of_sub hn (ns := l) fun k hk => by
        rcases List.mem_cons.mp ((hm k).mp hk) with rfl | h2
        · exact h
        · exact h2
      rw [List.length_cons] at hl
      omega
    refine List.nodup_cons.mpr ⟨hal, nodup_of_len (out := out.erase a) (hn.erase a) (fun k => ?_) ?_⟩
    · rw [List.Nodup.mem_erase_iff hn, hm k, List.mem_cons]
      constructor
      · rintro ⟨h1, h2 | h2⟩
        · exact absurd h2 h1
        · exact h2
      · exact fun h2 => ⟨fun e => hal (e ▸ h2), .inr h2⟩
    · rw [List.length_erase_of_mem ha, hl, List.length_cons]
      rfl
theorem len_iff {ns out : List Int} (hn : out.Nodup) (hm : ∀ k, k ∈ out ↔ k ∈ ns) : out.length = ns.length ↔ ns.Nodup := by
  constructor
  · exact nodup_of_len hn hm
  · intro h
    have h1 := len_le_of_sub hn fun k hk => (hm k).mp hk
    have h2 := len_le_of_sub h fun k hk => (hm k).mpr hk
    omega
theorem iswhole_spec {d : D} {h : DH} {Q : QK} {E : XE3} (hk : Kn d) (q : Q (.bl (match d with | .int _ => true | _ => false)) h) : sp_is_whole [d] h Q E := by
  refine ⟨rfl, ?_⟩
  cases d <;> first | exact hk.elim | exact ⟨h, Sub.refl _, q⟩
theorem thing_spec {n : Int} {d : D} {h : DH} {Q : QK} {E : XE3} (hk : Kn d) (q : Q (.bl (thg n d)) h) : sp_is_thing [.int n, d] h Q E := by
  refine ⟨rfl, ?_⟩
  refine iswhole_spec hk ?_
  cases d with
  | int i =>
    refine le_i ?_
    by_cases h0 : 0 ≤ i
    · rw [decide_eq_true h0]
      refine lt_i ?_
      refine ⟨h, Sub.refl _, ?_⟩
      have e : thg n (.int i) = decide (i < n) := by show decide (0 ≤ i ∧ i < n) = _; simp [h0]
      rw [e] at q
      exact q
    · rw [decide_eq_false h0]
      refine ⟨h, Sub.refl _, ?_⟩
      have e : thg n (.int i) = false := by show decide (0 ≤ i ∧ i < n) = _; simp [h0]
      rw [e] at q
      exact q
  | _ => first | exact hk.elim | exact ⟨h, Sub.refl _, q⟩
theorem choice_of {n k : Int} {d : D} {h : DH} {Q : QK} {E : XE3} (hk : Okd d) (q : Q (.bl (isch n k d)) h) : sp_is_choice [.int n, .int k, d] h Q E := by
  refine ⟨rfl, ?_⟩
  cases d with
  | tup ds =>
    obtain ⟨hk1, hk2⟩ := hk
    have hz := sizeLine_eq
    refine len_t ?_
    refine (ned_int _ _).mpr ?_
    by_cases hl : (ds.length : Int) = k
    · rw [decide_eq_true hl]
      refine ⟨by omega, ?_⟩
      refine lcl_map (fun d => .bl (thg n d)) (fun i d e N hN => thing_spec (hk1 d (List.mem_of_getElem? e)) hN) ?_
      have em : ds.map (fun d => D.bl (thg n d)) = (ds.map (thg n)).map D.bl := by rw [List.map_map]; rfl
      rw [em]
      refine all_bls ?_
      have ea : (ds.map (thg n)).all id = ds.all (thg n) := by rw [List.all_map]; rfl
      rw [ea]
      show (match !(ds.all (thg n)) with | true => _ | false => _)
      cases ha : ds.all (thg n) with
      | false =>
        have e : isch n k (.tup ds) = false := by rw [isch_tup]; rw [ha]; simp
        rw [e] at q
        exact ⟨h, Sub.refl _, q⟩
      | true =>
        have hall := List.all_eq_true.mp ha
        have ed := thg_all hall
        show (match ints? ds with | some ns => _ | none => False)
        have ei : ints? ds = some (ds.map toI) := by
          conv => lhs; rw [ed]
          exact ints_of _
        rw [ei]
        refine ⟨by rw [List.length_map]; exact hk2, fun out ho hm => ?_⟩
        refine (eqd_int _ _).mpr ?_
        refine ⟨h, Sub.refl _, ?_⟩
        have e2 : isch n k (.tup ds) = decide ((out.length : Int) = k) := by
          rw [isch_tup]
          rw [ha, decide_eq_true hl, Bool.true_and, Bool.true_and]
          have := len_iff ho hm
          rw [List.length_map] at this
          by_cases hh : (ds.map toI).Nodup
          · rw [decide_eq_true hh, decide_eq_true (by have := this.mpr hh; omega)]
          · rw [decide_eq_false hh, decide_eq_false (fun e => hh (this.mp (by omega)))]
        rw [e2] at q
        exact q
    · rw [decide_eq_false hl]
      have e : isch n k (.tup ds) = false := by rw [isch_tup]; rw [decide_eq_false hl]; rfl
      rw [e] at q
      exact ⟨h, Sub.refl _, q⟩
  | _ => first | exact hk.elim | exact ⟨h, Sub.refl _, q⟩
theorem kn_ints (c : List Int) : ∀ d ∈ c.map D.int, Kn d := fun d hd => by
  obtain ⟨x, _, rfl⟩ := List.mem_map.mp hd
  trivial
theorem isch_ch {n k : Int} {c : List Int} (ch : IsCh n k c) : isch n k (.tup (c.map D.int)) = true := by
  rw [isch_tup]
  have e1 : (c.map D.int).all (thg n) = true := by
    rw [List.all_eq_true]
    intro d hd
    obtain ⟨x, hx, rfl⟩ := List.mem_map.mp hd
    exact decide_eq_true (ch.2.1 x hx)
  have e2 : (c.map D.int).map toI = c := by
    rw [List.map_map]
    exact List.map_id c
  rw [e1, e2, List.length_map, decide_eq_true ch.1, decide_eq_true ch.2.2]
  rfl
/-! choices and their numbers -/
theorem cnt_succ_left (n : Int) : ∀ k, cnt n (k + 1) = n * cnt (n - 1) k
  | 0 => by show 1 * (n - (0 : Nat)) = n * 1; simp
  | k + 1 => by
    show cnt n (k + 1) * (n - ((k + 1 : Nat) : Int)) = n * (cnt (n - 1) k * (n - 1 - (k : Int)))
    rw [cnt_succ_left n k, Int.mul_assoc]
    congr 2
    omega
theorem cnt_pos {n : Int} : ∀ k : Nat, (k : Int) ≤ n → 0 < cnt n k
  | 0, _ => by show (0 : Int) < 1; decide
  | k + 1, h => by
    have := cnt_pos (n := n) k (by omega)
    exact Int.mul_pos this (by omega)
theorem cnt_big : ∀ n : Fin 27, ∀ k : Fin 27, k.val ≤ n.val → cnt n.val k.val < 2 ^ 100 := by decide +kernel
theorem cnt_lt {n : Int} {k : Nat} (h0 : (k : Int) ≤ n) (h1 : n ≤ 26) : cnt n k < 2 ^ 100 := by
  have hb := cnt_big ⟨n.toNat, by omega⟩ ⟨k, by omega⟩ (by show k ≤ n.toNat; omega)
  have e3 : ((n.toNat : Nat) : Int) = n := by omega
  simp only [e3] at hb
  exact hb
/-- the things that are left -/
def lf (n : Nat) (P : List Int) : List Int := (ups n).filter fun y => !decide (y ∈ P)
def les (P : List Int) (x : Int) : Nat := ((ups x.toNat).filter fun y => !decide (y ∈ P)).length
theorem ups_split {n : Nat} {x : Int} (h0 : 0 ≤ x) (h1 : x < n) : ∃ U, ups n = ups x.toNat ++ x :: U ∧ ∀ y ∈ U, x < y := by
  obtain ⟨r, hr⟩ : ∃ r, n = x.toNat + (r + 1) := ⟨n - x.toNat - 1, by omega⟩
  refine ⟨(List.range r).map fun i : Nat => ((x.toNat + (i + 1) : Nat) : Int), ?_, fun y hy => ?_⟩
  · unfold ups
    rw [hr, List.range_add, List.map_append]
    congr 1
    rw [List.range_succ_eq_map, List.map_cons, List.map_cons, List.map_map, List.map_map]
    have e : ((x.toNat + 0 : Nat) : Int) = x := by omega
    rw [e]
    rfl
  · obtain ⟨i, _, rfl⟩ := List.mem_map.mp hy
    omega
theorem lf_split {n : Nat} {P : List Int} {x : Int} (h0 : 0 ≤ x) (h1 : x < n) (hx : x ∉ P) : ∃ A B, lf n P = A ++ x :: B ∧ lf n (P ++ [x]) = A ++ B ∧ A.length = les P x ∧ (∀ y ∈ A, y < x) ∧ ∀ y ∈ B, x < y := by
  obtain ⟨U, e, hU⟩ := ups_split h0 h1
  have hA : ∀ y ∈ ups x.toNat, y < x := fun y hy => by have := ups_mem.mp hy; omega
  refine ⟨(ups x.toNat).filter fun y => !decide (y ∈ P), U.filter fun y => !decide (y ∈ P), ?_, ?_, rfl, fun y hy => hA y (List.mem_filter.mp hy).1, fun y hy => hU y (List.mem_filter.mp hy).1⟩
  · unfold lf
    rw [e, List.filter_append, List.filter_cons_of_pos (by simp [hx])]
  · unfold lf
    rw [e, List.filter_append, List.filter_cons_of_neg (by simp)]
    congr 1
    · refine List.filter_congr fun y hy => ?_
      have : y ≠ x := fun q => by have := hA y hy; omega
      simp [this]
    · refine List.filter_congr fun y hy => ?_
      have : y ≠ x := fun q => by have := hU y hy; omega
      simp [this]
theorem lf_mem {n : Nat} {P : List Int} {x : Int} : x ∈ lf n P ↔ (0 ≤ x ∧ x < n) ∧ x ∉ P := by
  unfold lf
  rw [List.mem_filter, ups_mem]
  simp
theorem lf_nil (n : Nat) : lf n [] = ups n := by
  unfold lf
  exact List.filter_eq_self.mpr fun y _ => by simp
/-- what is taken so far -/
structure Good (n : Nat) (P : List Int) : Prop where
  nd : P.Nodup
  rg : ∀ x ∈ P, 0 ≤ x ∧ x < n
  ln : (lf n P).length + P.length = n
theorem good_nil (n : Nat) : Good n [] := ⟨List.nodup_nil, (fun x hx => by cases hx), by rw [lf_nil, ups_len]; rfl⟩
theorem Good.snoc {n : Nat} {P : List Int} {x : Int} (g : Good n P) (h0 : 0 ≤ x) (h1 : x < n) (hx : x ∉ P) : Good n (P ++ [x]) := by
  obtain ⟨A, B, e1, e2, e3, hA, hB⟩ := lf_split h0 h1 hx
  refine ⟨?_, fun y hy => ?_, ?_⟩
  · rw [List.nodup_append]
    refine ⟨g.nd, by simp, fun a ha b hb e => ?_⟩
    have : b = x := by simpa using hb
    subst this; subst e; exact hx ha
  · rcases List.mem_append.mp hy with hy | hy
    · exact g.rg y hy
    · have : y = x := by simpa using hy
      subst this; exact ⟨h0, h1⟩
  · have := g.ln
    rw [e1] at this
    rw [e2]
    simp only [List.length_append, List.length_cons, List.length_nil] at this ⊢
    omega
/-- c goes on behind P -/
def Ext (n : Nat) (P c : List Int) : Prop := (P ++ c).Nodup ∧ ∀ x ∈ c, 0 ≤ x ∧ x < n
theorem Ext.head {n : Nat} {P c : List Int} {x : Int} (e : Ext n P (x :: c)) : (0 ≤ x ∧ x < n) ∧ x ∉ P ∧ Ext n (P ++ [x]) c := by
  refine ⟨e.2 x (by simp), fun hx => ?_, by rw [Ext, List.append_assoc]; exact ⟨e.1, fun y hy => e.2 y (by simp [hy])⟩⟩
  have := (List.nodup_append.mp e.1).2.2 x hx x (by simp)
  exact this rfl
def rkF (n : Nat) : List Int → List Int → Int
  | _, [] => 0
  | P, x :: xs => (les P x : Int) * cnt ((n : Int) - P.length - 1) xs.length + rkF n (P ++ [x]) xs
def unF (n : Nat) : Nat → List Int → Int → List Int
  | 0, _, _ => []
  | k + 1, P, num => (lf n P).getD (num / cnt ((n : Int) - P.length - 1) k).toNat 0 :: unF n k (P ++ [(lf n P).getD (num / cnt ((n : Int) - P.length - 1) k).toNat 0]) (num % cnt ((n : Int) - P.length - 1) k)
def hnF (n : Nat) : Int → List Int → List Int → Int
  | a, _, [] => a
  | a, P, x :: xs => hnF n (a * ((n : Int) - P.length) + les P x) (P ++ [x]) xs
theorem snoc_len (P : List Int) (x : Int) : ((P ++ [x]).length : Int) = P.length + 1 := by simp
theorem les_lt {n : Nat} {P : List Int} {x : Int} (g : Good n P) (h0 : 0 ≤ x) (h1 : x < n) (hx : x ∉ P) : (les P x : Int) + 1 ≤ (n : Int) - P.length := by
  obtain ⟨A, B, e1, e2, e3, hA, hB⟩ := lf_split h0 h1 hx
  have := g.ln
  rw [e1, List.length_append, List.length_cons, e3] at this
  omega
theorem rk_bound {n : Nat} : ∀ {c P : List Int}, Good n P → Ext n P c → (P.length : Int) + c.length ≤ n → 0 ≤ rkF n P c ∧ rkF n P c < cnt ((n : Int) - P.length) c.length
  | [], P, _, _, _ => by unfold rkF; exact ⟨Int.le_refl 0, by show (0 : Int) < 1; decide⟩
  | x :: c, P, g, e, hl => by
    obtain ⟨⟨h0, h1⟩, hx, e'⟩ := e.head
    rw [List.length_cons] at hl
    have ih := rk_bound (g.snoc h0 h1 hx) e' (by rw [snoc_len]; omega)
    have hle := les_lt g h0 h1 hx
    have hp : 0 < cnt ((n : Int) - P.length - 1) c.length := cnt_pos _ (by omega)
    rw [snoc_len] at ih
    have e5 : (n : Int) - ((P.length : Int) + 1) = (n : Int) - P.length - 1 := by omega
    rw [e5] at ih
    show 0 ≤ (les P x : Int) * cnt ((n : Int) - P.length - 1) c.length + rkF n (P ++ [x]) c ∧ (les P x : Int) * cnt ((n : Int) - P.length - 1) c.length + rkF n (P ++ [x]) c < cnt ((n : Int) - P.length) (c.length + 1)
    rw [cnt_succ_left]
    generalize cnt ((n : Int) - P.length - 1) c.length = C at *
    generalize rkF n (P ++ [x]) c = R at *
    have h2 : 0 ≤ (les P x : Int) * C := Int.mul_nonneg (by omega) (by omega)
    have h3 : ((les P x : Int) + 1) * C ≤ ((n : Int) - P.length) * C := Int.mul_le_mul_of_nonneg_right hle (by omega)
    rw [Int.add_mul, Int.one_mul] at h3
    omega
theorem getD_mid {A B : List Int} {x d : Int} : (A ++ x :: B).getD A.length d = x := by
  rw [List.getD_eq_getElem?_getD, List.getElem?_append_right (Nat.le_refl _), Nat.sub_self]
  rfl
theorem un_rk {n : Nat} : ∀ {c P : List Int}, Good n P → Ext n P c → (P.length : Int) + c.length ≤ n → unF n c.length P (rkF n P c) = c
  | [], _, _, _, _ => rfl
  | x :: c, P, g, e, hl => by
    obtain ⟨⟨h0, h1⟩, hx, e'⟩ := e.head
    rw [List.length_cons] at hl
    have ih := un_rk (g.snoc h0 h1 hx) e' (by rw [snoc_len]; omega)
    have hb := rk_bound (g.snoc h0 h1 hx) e' (by rw [snoc_len]; omega)
    have hp : 0 < cnt ((n : Int) - P.length - 1) c.length := cnt_pos _ (by omega)
    obtain ⟨A, B, e1, e2, e3, hA, hB⟩ := lf_split h0 h1 hx
    rw [snoc_len] at hb
    have e5 : (n : Int) - ((P.length : Int) + 1) = (n : Int) - P.length - 1 := by omega
    rw [e5] at hb
    have ed : rkF n P (x :: c) / cnt ((n : Int) - P.length - 1) c.length = (les P x : Int) := by
      show ((les P x : Int) * cnt ((n : Int) - P.length - 1) c.length + rkF n (P ++ [x]) c) / _ = _
      rw [Int.add_comm, Int.add_mul_ediv_right _ _ (by omega), Int.ediv_eq_zero_of_lt hb.1 hb.2, Int.zero_add]
    have em : rkF n P (x :: c) % cnt ((n : Int) - P.length - 1) c.length = rkF n (P ++ [x]) c := by
      show ((les P x : Int) * cnt ((n : Int) - P.length - 1) c.length + rkF n (P ++ [x]) c) % _ = _
      rw [Int.add_comm, Int.add_mul_emod_self_right, Int.emod_eq_of_lt hb.1 hb.2]
    have eg : (lf n P).getD (rkF n P (x :: c) / cnt ((n : Int) - P.length - 1) c.length).toNat 0 = x := by
      rw [ed, Int.toNat_natCast, e1, ← e3]
      exact getD_mid
    show (lf n P).getD (rkF n P (x :: c) / cnt ((n : Int) - P.length - 1) c.length).toNat 0 :: unF n c.length (P ++ [(lf n P).getD (rkF n P (x :: c) / cnt ((n : Int) - P.length - 1) c.length).toNat 0]) (rkF n P (x :: c) % cnt ((n : Int) - P.length - 1) c.length) = _
    rw [eg, em, ih]
theorem lf_at {n : Nat} {P : List Int} {i : Nat} (h : i < (lf n P).length) : (0 ≤ (lf n P).getD i 0 ∧ (lf n P).getD i 0 < n) ∧ (lf n P).getD i 0 ∉ P := by
  have : (lf n P).getD i 0 ∈ lf n P := by
    rw [List.getD_eq_getElem?_getD, List.getElem?_eq_getElem h]
    exact List.getElem_mem h
  exact lf_mem.mp this
theorem lf_nd (n : Nat) (P : List Int) : (lf n P).Nodup := (ups_nodup n).filter _
theorem les_at {n : Nat} {P : List Int} {i : Nat} (h : i < (lf n P).length) : les P ((lf n P).getD i 0) = i := by
  obtain ⟨⟨h0, h1⟩, hx⟩ := lf_at h
  obtain ⟨A, B, e1, e2, e3, hA, hB⟩ := lf_split h0 h1 hx
  have hj : les P ((lf n P).getD i 0) < (lf n P).length := by rw [← e3, e1, List.length_append, List.length_cons]; omega
  have e4 : (lf n P)[les P ((lf n P).getD i 0)]? = some ((lf n P).getD i 0) := by
    conv => lhs; arg 1; rw [e1]
    rw [← e3, List.getElem?_append_right (Nat.le_refl _), Nat.sub_self]
    rfl
  have e5 : (lf n P)[i]? = some ((lf n P).getD i 0) := by
    rw [List.getD_eq_getElem?_getD, List.getElem?_eq_getElem h]; rfl
  have pw := List.pairwise_iff_getElem.mp (lf_nd n P)
  obtain ⟨_, q1⟩ := List.getElem?_eq_some_iff.mp e4
  obtain ⟨_, q2⟩ := List.getElem?_eq_some_iff.mp e5
  rcases Nat.lt_trichotomy (les P ((lf n P).getD i 0)) i with hh | hh | hh
  · exact absurd (q1.trans q2.symm) (pw _ _ hj h hh)
  · exact hh
  · exact absurd (q2.trans q1.symm) (pw _ _ h hj hh)
theorem rk_un {n : Nat} : ∀ {k : Nat} {P : List Int} {num : Int}, Good n P → (P.length : Int) + k ≤ n → 0 ≤ num → num < cnt ((n : Int) - P.length) k →
    (unF n k P num).length = k ∧ Ext n P (unF n k P num) ∧ rkF n P (unF n k P num) = num
  | 0, P, num, g, _, h0, h1 => by
    have h1 : num < 1 := h1
    refine ⟨rfl, ⟨by rw [unF, List.append_nil]; exact g.nd, fun x hx => by cases hx⟩, ?_⟩
    show (0 : Int) = num
    omega
  | k + 1, P, num, g, hl, h0, h1 => by
    have hp : 0 < cnt ((n : Int) - P.length - 1) k := cnt_pos _ (by omega)
    rw [cnt_succ_left] at h1
    have ha0 : 0 ≤ num / cnt ((n : Int) - P.length - 1) k := Int.ediv_nonneg h0 (by omega)
    have ha1 : num / cnt ((n : Int) - P.length - 1) k < (n : Int) - P.length := Int.ediv_lt_of_lt_mul hp h1
    have hln := g.ln
    have hi : (num / cnt ((n : Int) - P.length - 1) k).toNat < (lf n P).length := by omega
    obtain ⟨⟨x0, x1⟩, hx⟩ := lf_at hi
    have hlx := les_at hi
    show ((lf n P).getD (num / cnt ((n : Int) - P.length - 1) k).toNat 0 :: unF n k (P ++ [(lf n P).getD (num / cnt ((n : Int) - P.length - 1) k).toNat 0]) (num % cnt ((n : Int) - P.length - 1) k)).length = k + 1 ∧ Ext n P ((lf n P).getD (num / cnt ((n : Int) - P.length - 1) k).toNat 0 :: unF n k (P ++ [(lf n P).getD (num / cnt ((n : Int) - P.length - 1) k).toNat 0]) (num % cnt ((n : Int) - P.length - 1) k)) ∧ rkF n P ((lf n P).getD (num / cnt ((n : Int) - P.length - 1) k).toNat 0 :: unF n k (P ++ [(lf n P).getD (num / cnt ((n : Int) - P.length - 1) k).toNat 0]) (num % cnt ((n : Int) - P.length - 1) k)) = num
    generalize (lf n P).getD (num / cnt ((n : Int) - P.length - 1) k).toNat 0 = x at *
    have m0 := Int.emod_nonneg num (show cnt ((n : Int) - P.length - 1) k ≠ 0 by omega)
    have m1 := Int.emod_lt_of_pos num hp
    have e5 : (n : Int) - ((P ++ [x]).length : Int) = (n : Int) - P.length - 1 := by rw [snoc_len]; omega
    obtain ⟨r1, r2, r3⟩ := rk_un (k := k) (g.snoc x0 x1 hx) (by rw [snoc_len]; omega) m0 (by rw [e5]; exact m1)
    refine ⟨by rw [List.length_cons, r1], ⟨?_, fun y hy => ?_⟩, ?_⟩
    · have := r2.1
      rw [List.append_assoc] at this
      exact this
    · rcases List.mem_cons.mp hy with rfl | hy
      · exact ⟨x0, x1⟩
      · exact r2.2 y hy
    · show (les P x : Int) * cnt ((n : Int) - P.length - 1) (unF n k (P ++ [x]) (num % cnt ((n : Int) - P.length - 1) k)).length + rkF n (P ++ [x]) (unF n k (P ++ [x]) (num % cnt ((n : Int) - P.length - 1) k)) = num
      rw [r1, r3, hlx]
      have e6 : (((num / cnt ((n : Int) - P.length - 1) k).toNat : Nat) : Int) = num / cnt ((n : Int) - P.length - 1) k := by omega
      rw [e6, Int.mul_comm]
      exact Int.mul_ediv_add_emod _ _
theorem hn_rk {n : Nat} : ∀ {c P : List Int} {a : Int}, hnF n a P c = a * cnt ((n : Int) - P.length) c.length + rkF n P c
  | [], P, a => by show a = a * 1 + 0; omega
  | x :: c, P, a => by
    show hnF n (a * ((n : Int) - P.length) + les P x) (P ++ [x]) c = a * cnt ((n : Int) - P.length) (c.length + 1) + ((les P x : Int) * cnt ((n : Int) - P.length - 1) c.length + rkF n (P ++ [x]) c)
    have e5 : (n : Int) - ((P ++ [x]).length : Int) = (n : Int) - P.length - 1 := by rw [snoc_len]; omega
    rw [hn_rk, e5, cnt_succ_left, Int.add_mul, ← Int.mul_assoc, Int.add_assoc]
theorem lf_sorted {n : Nat} {P : List Int} {i j : Nat} (h : i < j) (hj : j < (lf n P).length) : (lf n P).getD i 0 < (lf n P).getD j 0 := by
  have hs : (lf n P).Pairwise (· < ·) := by
    unfold lf
    refine List.Pairwise.filter _ ?_
    unfold ups
    rw [List.pairwise_map]
    exact List.pairwise_lt_range.imp fun h => by omega
  rw [List.getD_eq_getElem?_getD, List.getD_eq_getElem?_getD, List.getElem?_eq_getElem (by omega), List.getElem?_eq_getElem hj]
  exact List.pairwise_iff_getElem.mp hs i j (by omega) hj h
theorem un_mono {n : Nat} : ∀ {k : Nat} {P : List Int} {a b : Int}, Good n P → (P.length : Int) + k ≤ n → 0 ≤ a → a < b → b < cnt ((n : Int) - P.length) k → HT.lexLt (unF n k P a) (unF n k P b) = true
  | 0, P, a, b, _, _, h0, h1, h2 => by
    have h2 : b < 1 := h2
    omega
  | k + 1, P, a, b, g, hl, h0, h1, h2 => by
    have hp : 0 < cnt ((n : Int) - P.length - 1) k := cnt_pos _ (by omega)
    rw [cnt_succ_left] at h2
    have hb1 : b / cnt ((n : Int) - P.length - 1) k < (n : Int) - P.length := Int.ediv_lt_of_lt_mul hp h2
    have ha0 : 0 ≤ a / cnt ((n : Int) - P.length - 1) k := Int.ediv_nonneg h0 (by omega)
    have hle : a / cnt ((n : Int) - P.length - 1) k ≤ b / cnt ((n : Int) - P.length - 1) k := Int.ediv_le_ediv hp (by omega)
    have hln := g.ln
    show HT.lexLt (_ :: _) (_ :: _) = true
    rw [HT.lexLt_cons]
    by_cases he : a / cnt ((n : Int) - P.length - 1) k = b / cnt ((n : Int) - P.length - 1) k
    · have ea := Int.mul_ediv_add_emod a (cnt ((n : Int) - P.length - 1) k)
      have eb := Int.mul_ediv_add_emod b (cnt ((n : Int) - P.length - 1) k)
      rw [he] at ea ⊢
      rw [if_pos rfl]
      have hi : (b / cnt ((n : Int) - P.length - 1) k).toNat < (lf n P).length := by omega
      obtain ⟨⟨x0, x1⟩, hx⟩ := lf_at hi
      have e5 : (n : Int) - ((P ++ [(lf n P).getD (b / cnt ((n : Int) - P.length - 1) k).toNat 0]).length : Int) = (n : Int) - P.length - 1 := by rw [snoc_len]; omega
      refine un_mono (g.snoc x0 x1 hx) (by rw [snoc_len]; omega) (Int.emod_nonneg _ (by omega)) (by omega) ?_
      rw [e5]
      exact Int.emod_lt_of_pos _ hp
    · have hlt := lf_sorted (n := n) (P := P) (i := (a / cnt ((n : Int) - P.length - 1) k).toNat) (j := (b / cnt ((n : Int) - P.length - 1) k).toNat) (by omega) (by omega)
      rw [if_neg (by omega)]
      exact decide_eq_true hlt
/-! choice_at, number_of -/
theorem lf_erase {n : Nat} {P : List Int} {i : Nat} (h : i < (lf n P).length) : (lf n P).eraseIdx i = lf n (P ++ [(lf n P).getD i 0]) := by
  obtain ⟨⟨h0, h1⟩, hx⟩ := lf_at h
  obtain ⟨A, B, e1, e2, e3, hA, hB⟩ := lf_split h0 h1 hx
  have e4 := les_at h
  rw [e2, e1, ← e4, ← e3, List.eraseIdx_append_of_length_le (Nat.le_refl _), Nat.sub_self]
  rfl
theorem rgD_ups (n : Int) : rgD 0 n = (ups n.toNat).map D.int := by
  unfold rgD ups
  rw [List.map_map, Int.sub_zero]
  refine List.map_congr_left fun i _ => ?_
  show D.int (0 + (i : Int)) = D.int (i : Int)
  rw [Int.zero_add]
theorem chat_spec {n k num : Int} {h : DH} {Q : QK} {E : XE3} (k0 : 0 ≤ k) (k1 : k ≤ n) (n1 : n ≤ 26) (u0 : 0 ≤ num) (u1 : num < cnt n k.toNat) (q : Q (.tup ((unF n.toNat k.toNat [] num).map D.int)) h) : sp_choice_at [.int n, .int k, .int num] h Q E := by
  have en : ((n.toNat : Nat) : Int) = n := by omega
  have hz := sizeLine_eq
  refine ⟨rfl, ?_⟩
  refine le_i ?_
  rw [decide_eq_true u0]
  refine count_spec k0 (by omega) (by omega) (by omega) ?_
  refine lt_i ?_
  rw [decide_eq_true u1]
  refine ⟨RgOk.of_le (by omega) (by omega) (by omega) (by omega), fun t ht => ?_⟩
  show 0 ≤ sizeLine ∧ _
  refine ⟨by decide, ?_⟩
  show (_ ∧ _) ∧ _
  refine ⟨⟨by omega, by omega⟩, ?_⟩
  rw [rgD_ups]
  refine lp_rng (fun i ρ h' => ∃ (P : List Int) (m : Int) (x y : Option D), h' = put h t (.lst ((lf n.toNat P).map D.int)) ∧ ρ = [some (.int n), some (.int k), some (.int m), some (.ref t), some (.tup (P.map D.int)), x, y] ∧ P.length = i ∧ Good n.toNat P ∧ 0 ≤ m ∧ m < cnt (n - i) (k.toNat - i) ∧ P ++ unF n.toNat (k.toNat - i) P m = unF n.toNat k.toNat [] num)
    ⟨[], num, none, none, by rw [lf_nil], rfl, rfl, good_nil _, u0, (by rw [Nat.sub_zero, Int.natCast_zero, Int.sub_zero]; exact u1), (by rw [Nat.sub_zero, List.nil_append])⟩ (fun i ρ h' hi ⟨P, m, x, y, e1, e2, hl, g, m0, m1, hu⟩ N hN => ?_) (fun ρ h' ⟨P, m, x, y, e1, e2, hl, g, m0, m1, hu⟩ => ?_)
  · subst e1; subst e2
    obtain ⟨r, hr⟩ : ∃ r, k.toNat - i = r + 1 := ⟨k.toNat - i - 1, by omega⟩
    have hr2 : k.toNat - (i + 1) = r := by omega
    rw [hr] at m1 hu
    rw [cnt_succ_left] at m1
    refine count_spec (by omega) (by omega) (by omega) (by omega) ?_
    have er : (k - (i : Int) - 1).toNat = r := by omega
    rw [er]
    have hp : 0 < cnt (n - (i : Int) - 1) r := cnt_pos _ (by omega)
    have hb : cnt (n - (i : Int) - 1) r < 2 ^ 100 := cnt_lt (by omega) (by omega)
    have hb2 : (2 : Int) ^ 100 < 2 ^ 200 := by decide
    refine ⟨divok hp (by omega), ?_⟩
    refine ⟨rfl, ?_⟩
    have ht1 : put h t (.lst ((lf n.toNat P).map D.int)) t = some (.lst ((lf n.toNat P).map D.int)) := put_same
    refine ⟨mt_r ht1, ?_⟩
    have hln := g.ln
    have a0 : 0 ≤ m / cnt (n - (i : Int) - 1) r := Int.ediv_nonneg m0 (by omega)
    have a1 : m / cnt (n - (i : Int) - 1) r < n - (i : Int) := Int.ediv_lt_of_lt_mul hp m1
    have hi2 : (m / cnt (n - (i : Int) - 1) r).toNat < (lf n.toNat P).length := by omega
    have eP : (n.toNat : Int) - P.length - 1 = n - (i : Int) - 1 := by omega
    have ex : (lf n.toNat P)[(m / cnt (n - (i : Int) - 1) r).toNat]? = some ((lf n.toNat P).getD (m / cnt (n - (i : Int) - 1) r).toNat 0) := by
      rw [List.getD_eq_getElem?_getD, List.getElem?_eq_getElem hi2]; rfl
    refine pop_i ht1 a0 (by rw [List.length_map]; omega) (by rw [List.getElem?_map, ex]; rfl) ?_
    rw [put_put, map_erase, lf_erase hi2]
    obtain ⟨⟨x0, x1⟩, hx⟩ := lf_at hi2
    have hu2 : unF n.toNat (r + 1) P m = (lf n.toNat P).getD (m / cnt (n - (i : Int) - 1) r).toNat 0 :: unF n.toNat r (P ++ [(lf n.toNat P).getD (m / cnt (n - (i : Int) - 1) r).toNat 0]) (m % cnt (n - (i : Int) - 1) r) := by
      show (lf n.toNat P).getD (m / cnt ((n.toNat : Int) - P.length - 1) r).toNat 0 :: unF n.toNat r (P ++ [(lf n.toNat P).getD (m / cnt ((n.toNat : Int) - P.length - 1) r).toNat 0]) (m % cnt ((n.toNat : Int) - P.length - 1) r) = _
      rw [eP]
    rw [hu2] at hu
    generalize (lf n.toNat P).getD (m / cnt (n - (i : Int) - 1) r).toNat 0 = z at *
    show 1 ≤ sizeLine ∧ _
    refine ⟨by decide, ?_⟩
    refine addi_t (by rw [List.length_map]; show _ + 1 ≤ _; omega) ?_
    refine hN _ _ ⟨P ++ [z], m % cnt (n - (i : Int) - 1) r, some (.int (i : Int)), some (.int (m / cnt (n - (i : Int) - 1) r)), rfl, ?_, by rw [List.length_append, hl]; rfl, g.snoc x0 x1 hx, Int.emod_nonneg _ (by omega), ?_, ?_⟩
    · rw [List.map_append]; rfl
    · have e9 : n - ((i + 1 : Nat) : Int) = n - (i : Int) - 1 := by omega
      rw [hr2, e9]
      exact Int.emod_lt_of_pos _ hp
    · rw [hr2, List.append_assoc]
      exact hu
  · subst e1; subst e2
    have e9 : k.toNat - k.toNat = 0 := by omega
    rw [e9] at hu
    have hu : P = unF n.toNat k.toNat [] num := by rw [← hu]; show P = P ++ []; rw [List.append_nil]
    rw [hu]
    exact ⟨h, sub_put ht, q⟩
theorem ext_nil {n k : Int} {c : List Int} (ch : IsCh n k c) (hn : 0 ≤ n) : Ext n.toNat [] c := ⟨by rw [List.nil_append]; exact ch.2.2, fun x hx => by have := ch.2.1 x hx; omega⟩
theorem numof_spec {n k : Int} {c : List Int} {h : DH} {Q : QK} {E : XE3} (k1 : k ≤ n) (n1 : n ≤ 26) (ch : IsCh n k c) (q : Q (.int (rkF n.toNat [] c)) h) : sp_number_of [.int n, .tup (c.map D.int)] h Q E := by
  have hz := sizeLine_eq
  have hk := ch.1
  refine ⟨rfl, ?_⟩
  refine len_t ?_
  refine choice_of ⟨kn_ints c, by rw [List.length_map]; omega⟩ ?_
  rw [List.length_map, hk, isch_ch ch]
  refine ⟨RgOk.of_le (by omega) (by omega) (by omega) (by omega), fun t ht => ?_⟩
  rw [rgD_ups]
  refine lp_inv (fun i ρ h' => ∃ (a : Int) (x y z : Option D), h' = put h t (.lst ((lf n.toNat (c.take i)).map D.int)) ∧ ρ = [some (.int n), some (.tup (c.map D.int)), some (.ref t), some (.int a), x, y, z] ∧ Good n.toNat (c.take i) ∧ Ext n.toNat (c.take i) (c.drop i) ∧ a + rkF n.toNat (c.take i) (c.drop i) = rkF n.toNat [] c)
    ⟨0, none, none, none, by rw [List.take_zero, lf_nil], rfl, by rw [List.take_zero]; exact good_nil _, by rw [List.take_zero, List.drop_zero]; exact ext_nil ch (by omega), by rw [List.take_zero, List.drop_zero, Int.zero_add]⟩ (fun _ _ _ _ => trivial) (fun i d ρ h' e ⟨a, x, y, z, e1, e2, g, ex, hs⟩ N hN => ?_) (fun ρ h' ⟨a, x, y, z, e1, e2, g, ex, hs⟩ => ?_)
  · subst e1; subst e2
    obtain ⟨v, ev, rfl⟩ := enTo_at e
    rw [List.getElem?_map] at ev
    cases hc : c[i]? with
    | none => rw [hc] at ev; cases ev
    | some w =>
      rw [hc] at ev; cases ev
      obtain ⟨hil, hiv⟩ := List.getElem?_eq_some_iff.mp hc
      have ed : c.drop i = w :: c.drop (i + 1) := by rw [List.drop_eq_getElem_cons hil, hiv]
      have et : c.take (i + 1) = c.take i ++ [w] := by rw [List.take_add_one, hc]; rfl
      rw [ed] at ex hs
      obtain ⟨⟨w0, w1⟩, hw, ex'⟩ := ex.head
      obtain ⟨A, B, e1, e2, e3, hA, hB⟩ := lf_split w0 w1 hw
      refine ⟨rfl, ?_⟩
      have ht1 : put h t (.lst ((lf n.toNat (c.take i)).map D.int)) t = some (.lst ((lf n.toNat (c.take i)).map D.int)) := put_same
      refine ⟨mt_r ht1, ?_⟩
      have eg : (lf n.toNat (c.take i))[les (c.take i) w]? = some w := by
        rw [e1, ← e3, List.getElem?_append_right (Nat.le_refl _), Nat.sub_self]; rfl
      have no : ∀ m, m < les (c.take i) w → (lf n.toNat (c.take i))[m]? ≠ some w := fun m hm q => by
        rw [e1, List.getElem?_append_left (by omega)] at q
        have := hA w (List.mem_of_getElem? q)
        omega
      refine idx_r ht1 eg no ?_
      refine len_t ?_
      rw [List.length_map]
      refine count_spec (by omega) (by omega) (by omega) (by omega) ?_
      have hle := les_lt g w0 w1 hw
      refine ⟨mulok_left (by show _ < (les (c.take i) w : Int); omega) (by show (les (c.take i) w : Int) < _; omega), ?_⟩
      refine addi_i ?_
      refine ⟨mt_r ht1, ?_⟩
      have hln := g.ln
      have hlt : les (c.take i) w < (lf n.toNat (c.take i)).length := (List.getElem?_eq_some_iff.mp eg).1
      refine pop_i ht1 (by omega) (by rw [List.length_map]; omega) (by rw [List.getElem?_map, Int.toNat_natCast, eg]; rfl) ?_
      have egd : (lf n.toNat (c.take i)).getD (les (c.take i) w) 0 = w := by rw [List.getD_eq_getElem?_getD, eg]; rfl
      rw [put_put, map_erase, Int.toNat_natCast, lf_erase hlt, egd, ← et]
      refine hN _ _ ⟨_, _, _, _, rfl, rfl, by rw [et]; exact g.snoc w0 w1 hw, by rw [et]; exact ex', ?_⟩
      rw [et, ← hs]
      show _ = a + ((les (c.take i) w : Int) * cnt ((n.toNat : Int) - (c.take i).length - 1) (c.drop (i + 1)).length + rkF n.toNat (c.take i ++ [w]) (c.drop (i + 1)))
      have q1 : (n.toNat : Int) - (c.take i).length - 1 = n - (i : Int) - 1 := by rw [List.length_take]; omega
      have q2 : (c.drop (i + 1)).length = ((c.length : Int) - (i : Int) - 1).toNat := by rw [List.length_drop]; omega
      rw [q1, q2, Int.add_assoc]
  · subst e1; subst e2
    rw [enTo_len, List.length_map] at *
    rw [List.drop_length] at hs
    have : a = rkF n.toNat [] c := by
      have : rkF n.toNat (c.take c.length) [] = 0 := by unfold rkF; rfl
      omega
    rw [this]
    exact ⟨h, sub_put ht, q⟩
/-! the law's own -/
theorem whole_spec {a b : Int} {h : DH} {Q : QK} {E : XE3} (q : Q (.bl (decide (a = b))) h) : sp__law_whole [.int a, .int b] h Q E := by
  refine ⟨rfl, ?_⟩
  refine (eqd_int _ _).mpr ?_
  exact ⟨h, Sub.refl _, q⟩
theorem filter_D (P : List Int) (l : List Int) : (l.map D.int).filterMap (fun d => match d with | .int x => if x ∈ P then none else some (.int x) | d => none) = (l.filter (fun y => !decide (y ∈ P))).map D.int := by
  induction l with
  | nil => rfl
  | cons x l ih =>
    rw [List.map_cons]
    by_cases hx : x ∈ P
    · rw [List.filterMap_cons_none (by show (if x ∈ P then none else some (D.int x)) = none; rw [if_pos hx]), List.filter_cons_of_neg (by simp [hx]), ih]
    · rw [List.filterMap_cons_some (b := .int x) (by show (if x ∈ P then none else some (D.int x)) = _; rw [if_neg hx]), List.filter_cons_of_pos (by simp [hx]), List.map_cons, ih]
theorem rng_ups (n : Int) : (List.range n.toNat).map (fun i : Nat => D.int (i : Int)) = (ups n.toNat).map D.int := by
  unfold ups; rw [List.map_map]; rfl
theorem lawnum_spec {n k : Int} {c : List Int} {h : DH} {Q : QK} {E : XE3} (k1 : k ≤ n) (n1 : n ≤ 26) (ch : IsCh n k c) (q : Q (.int (rkF n.toNat [] c)) h) : sp__law_number [.int n, .tup (c.map D.int)] h Q E := by
  have hz := sizeLine_eq
  have hk := ch.1
  refine ⟨rfl, ?_⟩
  refine lp_inv (fun i ρ h' => ∃ (a : Int) (x y z w : Option D), h' = h ∧ ρ = [some (.int n), some (.tup (c.map D.int)), some (.int a), x, y, z, w] ∧ hnF n.toNat a (c.take i) (c.drop i) = hnF n.toNat 0 [] c)
    ⟨0, none, none, none, none, rfl, rfl, by rw [List.take_zero, List.drop_zero]⟩ (fun _ _ _ _ => trivial) (fun i d ρ h' e ⟨a, x, y, z, w, e1, e2, hs⟩ N hN => ?_) (fun ρ h' ⟨a, x, y, z, w, e1, e2, hs⟩ => ?_)
  · subst e1; subst e2
    obtain ⟨v, ev, rfl⟩ := enTo_at e
    rw [List.getElem?_map] at ev
    cases hc : c[i]? with
    | none => rw [hc] at ev; cases ev
    | some u =>
      rw [hc] at ev; cases ev
      obtain ⟨hil, hiv⟩ := List.getElem?_eq_some_iff.mp hc
      have ed : c.drop i = u :: c.drop (i + 1) := by rw [List.drop_eq_getElem_cons hil, hiv]
      have et : c.take (i + 1) = c.take i ++ [u] := by rw [List.take_add_one, hc]; rfl
      have hu := ch.2.1 u (List.mem_of_getElem? hc)
      rw [ed] at hs
      refine ⟨rfl, ?_⟩
      show (_ ∧ _) ∧ _
      refine ⟨⟨by omega, by omega⟩, ?_⟩
      refine ⟨by rw [List.length_map, List.length_range]; omega, ?_⟩
      refine lcl_pure (fun d => match d with | .int x => if x ∈ c.take i then none else some (.int x) | d => none) (fun j d e N N0 hN hN0 => ?_) ?_
      · obtain ⟨hj, rfl⟩ := range_at e
        refine sl_t ?_
        rw [cut_map, cut_to (by omega), Int.toNat_natCast]
        refine (nind_tup _ _).mpr ?_
        show (match !decide ((j : Int) ∈ c.take i) with | true => _ | false => _)
        by_cases hin : (j : Int) ∈ c.take i
        · rw [decide_eq_true hin]
          exact hN0 (by show (if (j : Int) ∈ c.take i then none else some (D.int (j : Int))) = none; rw [if_pos hin])
        · rw [decide_eq_false hin]
          exact hN _ (by show (if (j : Int) ∈ c.take i then none else some (D.int (j : Int))) = _; rw [if_neg hin])
      · rw [rng_ups, filter_D]
        refine ⟨mulok_right (by show _ < n - (i : Int); omega) (by show n - (i : Int) < _; omega), ?_⟩
        refine len_l ?_
        refine hN _ _ ⟨_, _, _, _, _, rfl, rfl, ?_⟩
        rw [et, ← hs]
        show hnF n.toNat _ _ _ = hnF n.toNat (a * ((n.toNat : Int) - (c.take i).length) + les (c.take i) u) (c.take i ++ [u]) (c.drop (i + 1))
        have q1 : (n.toNat : Int) - (c.take i).length = n - (i : Int) := by rw [List.length_take]; omega
        rw [q1, List.length_map]
        rfl
  · subst e1; subst e2
    rw [enTo_len, List.length_map, List.drop_length] at hs
    have e1 : a = hnF n.toNat 0 [] c := hs
    rw [hn_rk, Int.zero_mul, Int.zero_add] at e1
    rw [e1]
    exact ⟨h', Sub.refl _, q⟩
theorem told_spec {n k num : Int} {c : List Int} {h : DH} {Q : QK} {E : XE3} (k1 : k ≤ n) (n1 : n ≤ 26) (ch : IsCh n k c) (hn : num = rkF n.toNat [] c) (q : Q (.bl true) h) : sp__law_told [.int n, .tup (c.map D.int), .int num] h Q E := by
  have hz := sizeLine_eq
  have hk := ch.1
  have en : ((n.toNat : Nat) : Int) = n := by omega
  have ek : k.toNat = c.length := by omega
  have hb := rk_bound (good_nil n.toNat) (ext_nil ch (by omega)) (by show (0 : Int) + _ ≤ _; omega)
  have e0 : (n.toNat : Int) - (([] : List Int).length : Int) = n := by show (n.toNat : Int) - 0 = n; omega
  rw [e0] at hb
  have hu := un_rk (good_nil n.toNat) (ext_nil ch (by omega)) (by show (0 : Int) + _ ≤ _; omega)
  refine ⟨rfl, ?_⟩
  refine len_t ?_
  rw [List.length_map, hk]
  refine chat_spec (by omega) k1 n1 (by omega) (by rw [ek, hn]; exact hb.2) ?_
  rw [ek, hn, hu]
  refine (ned_tup _ _).mpr ?_
  rw [decide_eq_true rfl]
  refine ⟨by rw [List.length_map]; omega, ?_⟩
  refine lcl_map (fun _ => D.bl false) (fun j d e N hN => ?_) ?_
  · have := List.mem_of_getElem? e
    obtain ⟨x, _, rfl⟩ := List.mem_map.mp this
    exact hN
  · have em : (c.map D.int).map (fun _ => D.bl false) = ((List.replicate c.length false)).map D.bl := by
      rw [List.map_map, List.map_replicate]
      exact List.map_const' ..
    rw [em]
    refine any_bls ?_
    have ea : (List.replicate c.length false).any id = false := by simp
    rw [ea]
    refine numof_spec k1 n1 ch ?_
    refine whole_spec ?_
    rw [decide_eq_true rfl]
    exact ⟨h, Sub.refl _, q⟩
theorem few_spec {h0 h : DH} {p : Addr} {Q : QK} {E : XE3} (d : Ds h0 p h) (q : ∀ n k h', Ds h0 p h' → 1 ≤ n → n ≤ 26 → 0 ≤ k → k ≤ n → (k ≤ 6 ∧ (n ≤ 6 ∨ (n = 9 ∧ k ≤ 3) ∨ (n = 26 ∧ k ≤ 2))) → Q (.tup [.int n, .int k]) h') : sp__law_few [.ref p] h Q E := by
  refine ⟨rfl, ?_⟩
  refine ⟨by show (8 : Nat) ≤ sizeLine; decide, ?_⟩
  refine d.next (by decide) (by decide) fun a h1 d1 a0 a1 => ?_
  have key : ∀ (n b : Int), 1 ≤ n → n ≤ 26 → 1 ≤ b → b ≤ 7 → (n ≤ 6 ∨ (n = 9 ∧ b ≤ 4) ∨ (n = 26 ∧ b ≤ 3)) → (∀ h' (W : QK), (∀ k h', Ds h0 p h' → 0 ≤ k → k < b → W (.int k) h') → Ds h0 p h' → sp__law_next [.ref p, .int b] h' W E) := fun n b _ _ b0 b1 _ h' W hW d' => d'.next (by omega) (by omega) fun k h2 d2 k0 k1 => hW k h2 d2 k0 k1
  have fin : ∀ (n b : Int), 1 ≤ n → n ≤ 26 → 1 ≤ b → b ≤ 7 → (n ≤ 6 ∨ (n = 9 ∧ b ≤ 4) ∨ (n = 26 ∧ b ≤ 3)) → ∀ k h', Ds h0 p h' → 0 ≤ k → k < b → Q (.tup [.int n, .int (if k < n then k else n)]) h' := fun n b n0 n1 b0 b1 hb k h' d' k0 k1 =>
    q n _ h' d' n0 n1 (by split <;> omega) (by split <;> omega) (by split <;> omega)
  have ha : a = 0 ∨ a = 1 ∨ a = 2 ∨ a = 3 ∨ a = 4 ∨ a = 5 ∨ a = 6 ∨ a = 7 := by omega
  rcases ha with rfl | rfl | rfl | rfl | rfl | rfl | rfl | rfl <;> refine ixl (atI_of (by decide) rfl) ?_ <;> refine ⟨by show (3 : Nat) ≤ sizeLine; decide, ?_⟩ <;> refine gt_i ?_ <;> refine gt_i ?_ <;> refine ixl (atI_of (by decide) rfl) ?_ <;> refine d1.next (by decide) (by decide) fun k h2 d2 k0 k1 => ?_ <;> refine ⟨by show (2 : Nat) ≤ sizeLine; decide, h2, Sub.refl _, ?_⟩
  · exact fin 1 7 (by decide) (by decide) (by decide) (by decide) (by decide) k h2 d2 k0 k1
  · exact fin 2 7 (by decide) (by decide) (by decide) (by decide) (by decide) k h2 d2 k0 k1
  · exact fin 3 7 (by decide) (by decide) (by decide) (by decide) (by decide) k h2 d2 k0 k1
  · exact fin 4 7 (by decide) (by decide) (by decide) (by decide) (by decide) k h2 d2 k0 k1
  · exact fin 5 7 (by decide) (by decide) (by decide) (by decide) (by decide) k h2 d2 k0 k1
  · exact fin 6 7 (by decide) (by decide) (by decide) (by decide) (by decide) k h2 d2 k0 k1
  · exact fin 9 4 (by decide) (by decide) (by decide) (by decide) (by decide) k h2 d2 k0 k1
  · exact fin 26 3 (by decide) (by decide) (by decide) (by decide) (by decide) k h2 d2 k0 k1
abbrev tD (c : List Int) : D := .tup (c.map D.int)
theorem hn_snoc {n : Nat} {x : Int} : ∀ {c P : List Int} {a : Int}, hnF n a P (c ++ [x]) = hnF n a P c * ((n : Int) - ((P ++ c).length : Int)) + les (P ++ c) x
  | [], P, a => by rw [List.nil_append, List.append_nil]; rfl
  | y :: c, P, a => by
    show hnF n (a * ((n : Int) - P.length) + les P y) (P ++ [y]) (c ++ [x]) = hnF n (a * ((n : Int) - P.length) + les P y) (P ++ [y]) c * _ + _
    rw [hn_snoc, List.append_assoc]
    rfl
theorem isch_good {n k : Int} {c : List Int} (ch : IsCh n k c) (n0 : 0 ≤ n) : ∀ i, i ≤ c.length → Good n.toNat (c.take i)
  | 0, _ => by rw [List.take_zero]; exact good_nil _
  | i + 1, h => by
    have g := isch_good ch n0 i (by omega)
    have hc : c[i]? = some c[i] := List.getElem?_eq_getElem (by omega)
    have et : c.take (i + 1) = c.take i ++ [c[i]] := by rw [List.take_add_one, hc]; rfl
    have hr := ch.2.1 c[i] (List.getElem_mem _)
    rw [et]
    refine g.snoc (by omega) (by omega) fun hm => ?_
    have hnd := ch.2.2
    rw [← List.take_append_drop i c, List.nodup_append] at hnd
    have hd : (c.drop i)[0]? = some c[i] := by rw [List.getElem?_drop]; exact hc
    exact hnd.2.2 _ hm _ (List.mem_of_getElem? hd) rfl
theorem all_spec {n k : Int} {h : DH} {Q : QK} {E : XE3} (k0 : 0 ≤ k) (k1 : k ≤ n) (n1 : n ≤ 26) (hcap : ∀ i : Nat, i ≤ k.toNat → cnt n i ≤ 1000)
    (q : ∀ rows : List (List Int), (∀ (j : Nat) (c : List Int), rows[j]? = some c → IsCh n k c ∧ hnF n.toNat 0 [] c = j) → Q (.lst (rows.map tD)) h) : sp__law_all [.int n, .int k] h Q E := by
  have hz := sizeLine_eq
  refine ⟨rfl, ?_⟩
  refine ⟨by show (0 : Nat) ≤ sizeLine; decide, ?_⟩
  refine ⟨by show (1 : Nat) ≤ sizeLine; decide, ?_⟩
  show (_ ∧ _) ∧ _
  refine ⟨⟨by omega, by omega⟩, ?_⟩
  refine lp_rng (fun i ρ h' => ∃ (rows : List (List Int)) (x y z w : Option D), h' = h ∧ ρ = [some (.int n), some (.int k), some (.lst (rows.map tD)), x, y, z, w] ∧ (rows.length : Int) = cnt n i ∧ ∀ (j : Nat) (c : List Int), rows[j]? = some c → IsCh n i c ∧ hnF n.toNat 0 [] c = j)
    ⟨[[]], none, none, none, none, rfl, rfl, rfl, fun j c e => ?_⟩ (fun i ρ h' hi ⟨rows, x, y, z, w, e1, e2, hl, hr⟩ N hN => ?_) (fun ρ h' ⟨rows, x, y, z, w, e1, e2, hl, hr⟩ => ?_)
  · cases j with
    | zero =>
      have e : some [] = some c := e
      cases e
      exact ⟨⟨rfl, (fun x hx => by cases hx), List.nodup_nil⟩, rfl⟩
    | succ j => cases e
  · subst e1; subst e2
    have hcp : cnt n (i + 1) ≤ 1000 := hcap (i + 1) (by omega)
    have hcs : cnt n (i + 1) = cnt n i * (n - (i : Int)) := rfl
    refine ⟨by show (0 : Nat) ≤ sizeLine; decide, fun t ht => ?_⟩
    refine lp_inv (fun j ρ h'' => ∃ (L : List (List Int)) (z w : Option D), h'' = put h' t (.lst (L.map tD)) ∧ ρ = [some (.int n), some (.int k), some (.lst (rows.map tD)), some (.int (i : Int)), some (.ref t), z, w] ∧ (L.length : Int) = (j : Int) * (n - (i : Int)) ∧ ∀ (m : Nat) (c : List Int), L[m]? = some c → IsCh n ((i + 1 : Nat) : Int) c ∧ hnF n.toNat 0 [] c = m)
      ⟨[], z, w, rfl, rfl, by show (0 : Int) = (0 : Int) * _; rw [Int.zero_mul], fun m c e => by cases e⟩ (fun _ _ _ _ => trivial) (fun j d ρ h'' e ⟨L, z, w, e1, e2, hL, hm⟩ N2 hN2 => ?_) (fun ρ h'' ⟨L, z, w, e1, e2, hL, hm⟩ => ?_)
    · subst e1; subst e2
      rw [List.getElem?_map] at e
      cases hrow : rows[j]? with
      | none => rw [hrow] at e; cases e
      | some row =>
        rw [hrow] at e; cases e
        obtain ⟨ch, hnum⟩ := hr j row hrow
        have hj : j < rows.length := (List.getElem?_eq_some_iff.mp hrow).1
        have hrl := ch.1
        have g : Good n.toNat row := by
          have := isch_good ch (by omega) row.length (Nat.le_refl _)
          rw [List.take_length] at this
          exact this
        have hln := g.ln
        have ht1 : put h' t (.lst (L.map tD)) t = some (.lst (L.map tD)) := put_same
        refine ⟨mt_r ht1, ?_⟩
        show (_ ∧ _) ∧ _
        refine ⟨⟨by omega, by omega⟩, ?_⟩
        refine ⟨by rw [List.length_map, List.length_range]; omega, ?_⟩
        refine lcl_pure (fun d => match d with | .int x => if x ∈ row then none else some (tD (row ++ [x])) | d => none) (fun m d e N N0 hN hN0 => ?_) ?_
        · obtain ⟨hm', rfl⟩ := range_at e
          refine (nind_tup _ _).mpr ?_
          show (match !decide ((m : Int) ∈ row) with | true => _ | false => _)
          by_cases hin : (m : Int) ∈ row
          · rw [decide_eq_true hin]
            exact hN0 (by show (if (m : Int) ∈ row then none else some (tD (row ++ [(m : Int)]))) = none; rw [if_pos hin])
          · rw [decide_eq_false hin]
            refine ⟨by show (1 : Nat) ≤ sizeLine; decide, ?_⟩
            refine ⟨by rw [List.length_map]; show _ + 1 ≤ sizeLine; omega, ?_⟩
            have := hN _ (show (if (m : Int) ∈ row then none else some (tD (row ++ [(m : Int)]))) = some (tD (row ++ [(m : Int)])) by rw [if_neg hin])
            have e9 : tD (row ++ [(m : Int)]) = .tup (row.map D.int ++ [D.int (m : Int)]) := by show D.tup ((row ++ [(m : Int)]).map D.int) = _; rw [List.map_append]; rfl
            rw [e9] at this
            exact this
        · have ef : ((List.range n.toNat).map fun i : Nat => D.int (i : Int)).filterMap (fun d => match d with | .int x => if x ∈ row then none else some (tD (row ++ [x])) | d => none) = ((lf n.toNat row).map fun x => row ++ [x]).map tD := by
            rw [rng_ups]
            unfold lf
            generalize ups n.toNat = l
            induction l with
            | nil => rfl
            | cons x l ih =>
              rw [List.map_cons]
              by_cases hx : x ∈ row
              · rw [List.filterMap_cons_none (by show (if x ∈ row then none else some (tD (row ++ [x]))) = none; rw [if_pos hx]), List.filter_cons_of_neg (by simp [hx]), ih]
              · rw [List.filterMap_cons_some (b := tD (row ++ [x])) (by show (if x ∈ row then none else some (tD (row ++ [x]))) = _; rw [if_neg hx]), List.filter_cons_of_pos (by simp [hx]), List.map_cons, List.map_cons, ih]
          rw [ef]
          have hd0 : (0 : Int) ≤ n - (i : Int) := by omega
          have hmul : ((j : Int) + 1) * (n - (i : Int)) ≤ cnt n i * (n - (i : Int)) := Int.mul_le_mul_of_nonneg_right (by omega) hd0
          rw [Int.add_mul, Int.one_mul] at hmul
          refine ext_i ht1 rfl (by rw [List.length_map, List.length_map, List.length_map]; omega) ?_
          rw [put_put, ← List.map_append]
          refine hN2 _ _ ⟨L ++ (lf n.toNat row).map (fun x => row ++ [x]), some (tD row), w, rfl, rfl, ?_, fun m c e => ?_⟩
          · rw [List.length_append, List.length_map, Int.natCast_add, hL]
            have e8 : ((j + 1 : Nat) : Int) * (n - (i : Int)) = (j : Int) * (n - (i : Int)) + (n - (i : Int)) := by rw [Int.natCast_add, Int.add_mul]; show _ + 1 * _ = _; rw [Int.one_mul]
            rw [e8]
            omega
          · by_cases hmL : m < L.length
            · rw [List.getElem?_append_left hmL] at e
              exact hm m c e
            · rw [List.getElem?_append_right (by omega), List.getElem?_map] at e
              cases hx : (lf n.toNat row)[m - L.length]? with
              | none => rw [hx] at e; cases e
              | some x =>
                rw [hx] at e; cases e
                have hml : m - L.length < (lf n.toNat row).length := (List.getElem?_eq_some_iff.mp hx).1
                have egd : (lf n.toNat row).getD (m - L.length) 0 = x := by rw [List.getD_eq_getElem?_getD, hx]; rfl
                obtain ⟨⟨x0, x1⟩, hxr⟩ := lf_at hml
                have hle := les_at hml
                rw [egd] at x0 x1 hxr hle
                have g2 := g.snoc x0 x1 hxr
                refine ⟨⟨by rw [List.length_append]; show ((row.length + 1 : Nat) : Int) = _; omega, fun y hy => by have := g2.rg y hy; omega, g2.nd⟩, ?_⟩
                rw [hn_snoc, hnum, List.nil_append, hle, hrl]
                have en : ((n.toNat : Nat) : Int) = n := by omega
                rw [en, ← hL]
                omega
    · subst e1; subst e2
      rw [List.length_map] at hL
      show (match put h' t (.lst (L.map tD)) t with | some (.lst ds) => _ | _ => _)
      rw [put_same]
      show N _ (era (put h' t (.lst (L.map tD))) t)
      rw [era_put ht]
      refine hN _ _ ⟨L, _, _, _, _, rfl, rfl, ?_, hm⟩
      rw [hL, hl]
      rfl
  · subst e1; subst e2
    have e9 : ((k.toNat : Nat) : Int) = k := by omega
    rw [e9] at hr
    exact ⟨h', Sub.refl _, q rows hr⟩
def greatTail : US := (sSq (sAs (uCl sp_choice_at (aC (uV 1) (aC (uV 2) (aC (uV 6) aN)))) (gV 7))
  (sSq (sIf (uOr (uTb (uO2 neD (uCl sp__law_number (aC (uV 1) (aC (uV 7) aN))) (uV 6))) (uOr (uTb (uO2 neD (uCB lenD (aC (uV 7) aN)) (uV 2))) (uNot (uTr (uCl sp__law_told (aC (uV 1) (aC (uV 7) (aC (uV 6) aN)))))))) (sRt (uC (.bl false))) sNx)
  (sSq (sIf (uAnd (uTb (uO2 ltD (uO2 addD (uV 6) (uC (.int 1))) (uV 4))) (uNot (uTb (uO2 gtD (uCl sp_choice_at (aC (uV 1) (aC (uV 2) (aC (uO2 addD (uV 6) (uC (.int 1))) aN)))) (uV 7))))) (sRt (uC (.bl false))) sNx)
  (sRt (uOrV (uO2 eqD (uV 6) (uC (.int 0))) (uO2 ltD (uCl sp_choice_at (aC (uV 1) (aC (uV 2) (aC (uO2 subD (uV 6) (uC (.int 1))) aN)))) (uV 7)))))))
theorem great_tail {h0 h5 : DH} {p : Addr} {n k m : Int} {c : List Int} {x z : Option D} {Q : QK} {E : XE3} (d5 : Ds h0 p h5) (n0 : 1 ≤ n) (n1 : n ≤ 26) (k0 : 0 ≤ k) (k1 : k < n + 1) (m0 : 0 ≤ m) (m1 : m < cnt n k.toNat) (q : ∀ h', Ds h0 p h' → Q (.bl true) h') :
    greatTail (dEnds Q E) [some (.ref p), some (.int n), some (.int k), some (.tup (c.map D.int)), some (.int (cnt n k.toNat)), x, some (.int m), z] h5 := by
  have e0 : (n.toNat : Int) - (([] : List Int).length : Int) = n := by show (n.toNat : Int) - 0 = n; omega
  have hl0 : ((([] : List Int).length : Nat) : Int) + (k.toNat : Int) ≤ (n.toNat : Int) := by show (0 : Int) + _ ≤ _; omega
  have key : ∀ u : Int, 0 ≤ u → u < cnt n k.toNat → IsCh n k (unF n.toNat k.toNat [] u) ∧ rkF n.toNat [] (unF n.toNat k.toNat [] u) = u := fun u u0 u1 => by
    obtain ⟨r1, r2, r3⟩ := rk_un (good_nil n.toNat) hl0 u0 (by rw [e0]; exact u1)
    refine ⟨⟨by omega, fun x hx => by have := r2.2 x hx; omega, ?_⟩, r3⟩
    have := r2.1
    rw [List.nil_append] at this
    exact this
  refine chat_spec k0 (by omega) n1 m0 m1 ?_
  obtain ⟨ch2, hrk⟩ := key m m0 m1
  refine lawnum_spec (by omega) n1 ch2 ?_
  refine (ned_int _ _).mpr ?_
  rw [hrk, decide_eq_true rfl]
  refine len_t ?_
  refine (ned_int _ _).mpr ?_
  rw [List.length_map, ch2.1, decide_eq_true rfl]
  refine told_spec (by omega) n1 ch2 hrk.symm ?_
  refine lt_i ?_
  have last : (sRt (uOrV (uO2 eqD (uV 6) (uC (.int 0))) (uO2 ltD (uCl sp_choice_at (aC (uV 1) (aC (uV 2) (aC (uO2 subD (uV 6) (uC (.int 1))) aN)))) (uV 7)))) (dEnds Q E) [some (.ref p), some (.int n), some (.int k), some (.tup (c.map D.int)), some (.int (cnt n k.toNat)), x, some (.int m), some (.tup ((unF n.toNat k.toNat [] m).map D.int))] h5 := by
    refine (eqd_int _ _).mpr ?_
    by_cases hm0 : m = 0
    · rw [decide_eq_true hm0]
      exact ⟨h5, Sub.refl _, q h5 d5⟩
    · rw [decide_eq_false hm0]
      refine chat_spec k0 (by omega) n1 (by omega) (by omega) ?_
      refine lt_t ?_
      rw [un_mono (good_nil n.toNat) hl0 (by omega) (by omega) (by rw [e0]; exact m1)]
      exact ⟨h5, Sub.refl _, q h5 d5⟩
  by_cases hm2 : m + 1 < cnt n k.toNat
  · rw [decide_eq_true hm2]
    refine chat_spec k0 (by omega) n1 (by omega) (by omega) ?_
    refine gt_t ?_
    rw [un_mono (good_nil n.toNat) hl0 m0 (by omega) (by rw [e0]; exact hm2)]
    exact last
  · rw [decide_eq_false hm2]
    exact last
theorem great_spec {h0 h : DH} {p : Addr} {Q : QK} {E : XE3} (d : Ds h0 p h) (q : ∀ h', Ds h0 p h' → Q (.bl true) h') : sp__law_great [.ref p] h Q E := by
  refine ⟨rfl, ?_⟩
  refine many_spec d fun n h1 d1 n0 n1 => ?_
  refine d1.next (by omega) (by omega) fun k h2 d2 k0 k1 => ?_
  refine choice_spec d2 k0 (by omega) n1 fun c h3 d3 ch => ?_
  refine lawnum_spec (by omega) n1 ch ?_
  refine told_spec (by omega) n1 ch rfl ?_
  show (_ ∧ _) ∧ _
  refine ⟨⟨by omega, by omega⟩, ?_⟩
  refine lp_rng (fun i ρ h' => h' = h3 ∧ ∃ x y z, ρ = [some (.ref p), some (.int n), some (.int k), some (.tup (c.map D.int)), some (.int (cnt n i)), x, y, z]) ⟨rfl, none, none, none, rfl⟩ (fun i ρ h' hi ⟨e1, x, y, z, e2⟩ N hN => ?_) (fun ρ h' ⟨e1, x, y, z, e2⟩ => ?_)
  · subst e1; subst e2
    refine ⟨mulok_right (by show _ < n - (i : Int); omega) (by show n - (i : Int) < _; omega), ?_⟩
    exact hN _ _ ⟨rfl, _, _, _, rfl⟩
  · subst e1; subst e2
    have hp : 0 < cnt n k.toNat := cnt_pos _ (by omega)
    refine ⟨⟨by decide, by decide, by decide⟩, ?_⟩
    refine d3.next (by decide) (by decide) fun a h4 d4 a0 a1 => ?_
    refine ⟨⟨by decide, by decide, by decide⟩, ?_⟩
    have a1 : a < 1000000000000 := a1
    refine ⟨mulok_left (by show _ < a; omega) (by show a < _; omega), ?_⟩
    refine ⟨⟨by decide, by decide, by decide⟩, ?_⟩
    refine d4.next (by decide) (by decide) fun b h5 d5 b0 b1 => ?_
    refine ⟨hp, ?_⟩
    exact great_tail d5 n0 n1 k0 k1 (Int.emod_nonneg _ (by omega)) (Int.emod_lt_of_pos _ hp) q
theorem cap_small : ∀ n : Fin 7, ∀ i : Fin 7, i.val ≤ n.val → cnt n.val i.val ≤ 1000 := by decide +kernel
theorem pure_law : ∀ ns : List Int, ns.length ≤ 63 → sp_law [.frz (ns.map D.int)] (fun _ => none) (fun d _ => d = .bl true) (fun _ _ => False) := fun ns hn => by
  refine ⟨rfl, ?_⟩
  refine begin_ds fun p h hp d => ?_
  refine ⟨⟨by decide, by decide⟩, ?_⟩
  have hz := sizeLine_eq
  refine lp_rng (fun i ρ h' => Ds (fun _ => none) p h' ∧ ∃ x1 x2 x3 x4 x5, ρ = [some (.frz (ns.map D.int)), some (.ref p), x1, x2, x3, x4, x5]) ⟨d, none, none, none, none, none, rfl⟩ (fun i ρ h' hi ⟨d1, x1, x2, x3, x4, x5, e1⟩ N hN => ?_) (fun ρ h' ⟨d1, x1, x2, x3, x4, x5, e1⟩ => ?_)
  · subst e1
    refine few_spec d1 fun n k h2 d2 n0 n1 k0 k1 hs => ?_
    refine ⟨rfl, ?_⟩
    have hcap : ∀ i : Nat, i ≤ k.toNat → cnt n i ≤ 1000 := fun i hi => by
      rcases hs.2 with h6 | ⟨h9, h3⟩ | ⟨h26, h2⟩
      · have := cap_small ⟨n.toNat, by omega⟩ ⟨i, by omega⟩ (by show i ≤ n.toNat; omega)
        have en : ((n.toNat : Nat) : Int) = n := by omega
        simp only [en] at this
        exact this
      · subst h9
        have : i = 0 ∨ i = 1 ∨ i = 2 ∨ i = 3 := by omega
        rcases this with rfl | rfl | rfl | rfl <;> decide
      · subst h26
        have : i = 0 ∨ i = 1 ∨ i = 2 := by omega
        rcases this with rfl | rfl | rfl <;> decide
    refine all_spec k0 k1 n1 hcap fun rows hrows => ?_
    refine lp_inv (fun _ ρ h'' => h'' = h2 ∧ ∃ x1 x4 x5, ρ = [some (.frz (ns.map D.int)), some (.ref p), x1, some (.int n), some (.int k), x4, x5]) ⟨rfl, _, _, _, rfl⟩ (fun _ _ _ _ => trivial) (fun j dd ρ h'' e ⟨e1', y1, y2, y3, e2'⟩ N2 hN2 => ?_) (fun ρ h'' ⟨e1', y1, y2, y3, e2'⟩ => ?_)
    · subst e1'; subst e2'
      obtain ⟨v, ev, rfl⟩ := enTo_at e
      rw [List.getElem?_map] at ev
      cases hc : rows[j]? with
      | none => rw [hc] at ev; cases ev
      | some c =>
        rw [hc] at ev; cases ev
        obtain ⟨ch, hnum⟩ := hrows j c hc
        rw [hn_rk, Int.zero_mul, Int.zero_add] at hnum
        refine ⟨rfl, ?_⟩
        refine told_spec k1 n1 ch hnum.symm ?_
        exact hN2 _ _ ⟨rfl, _, _, _, rfl⟩
    · subst e1'; subst e2'
      exact hN _ _ ⟨d2, _, _, _, _, _, rfl⟩
  · subst e1
    refine ⟨⟨by decide, by decide⟩, ?_⟩
    refine ⟨by show (8 : Nat) ≤ sizeLine; decide, ?_⟩
    refine lcl_inv (fun i acc h => Ds (fun _ => none) p h ∧ ∀ d ∈ acc, d = D.bl true) ⟨d1, fun d hd => by cases hd⟩ (fun _ _ _ _ => trivial) (fun i d acc h e1 ⟨d2, ha⟩ N N0 hN hN0 => ?_) (fun acc h ⟨d2, ha⟩ => ?_)
    · refine great_spec d2 fun h3 d3 => ?_
      refine hN _ _ ⟨d3, fun d hd => ?_⟩
      rcases List.mem_append.mp hd with hd | hd
      · exact ha d hd
      · simpa using hd
    · refine all_true ha ?_
      exact ⟨h, Sub.refl _, rfl⟩
end Lw

set_option Elab.async false
set_option linter.all false
set_option maxRecDepth 100000
set_option maxHeartbeats 0
namespace Lw
open PySem PySem.Spec PyProof.Rows L2 L3
end Lw
namespace Lw
open PySem PySem.Spec PyProof.Rows L2 L3
def top (i : Nat) : Stmt := PySem.Challenge.pw_orderrows_k03_choices_and_their_numbers.main.body.getD i (.Pass ⟨0, 0, 0, 0⟩)
abbrev st_is_whole : Stmt := top 5
abbrev N_is_whole : List Str := ["thing"]
theorem sc_is_whole : FnScope N_is_whole ["thing"] (defScope st_is_whole) := ⟨rfl, rfl, rfl, by decide +kernel, rfl, by decide +kernel, by decide +kernel⟩
abbrev st_is_thing : Stmt := top 6
abbrev N_is_thing : List Str := ["n", "thing"]
theorem sc_is_thing : FnScope N_is_thing ["n", "thing"] (defScope st_is_thing) := ⟨rfl, rfl, rfl, by decide +kernel, rfl, by decide +kernel, by decide +kernel⟩
abbrev st_is_choice : Stmt := top 7
abbrev N_is_choice : List Str := ["n", "k", "thing", "one"]
theorem sc_is_choice : FnScope N_is_choice ["n", "k", "thing"] (defScope st_is_choice) := ⟨rfl, rfl, rfl, by decide +kernel, rfl, by decide +kernel, by decide +kernel⟩
abbrev st_count : Stmt := top 8
abbrev N_count : List Str := ["n", "k", "many", "less"]
theorem sc_count : FnScope N_count ["n", "k"] (defScope st_count) := ⟨rfl, rfl, rfl, by decide +kernel, rfl, by decide +kernel, by decide +kernel⟩
abbrev st_choice_at : Stmt := top 9
abbrev N_choice_at : List Str := ["n", "k", "number", "left", "found", "place", "at"]
theorem sc_choice_at : FnScope N_choice_at ["n", "k", "number"] (defScope st_choice_at) := ⟨rfl, rfl, rfl, by decide +kernel, rfl, by decide +kernel, by decide +kernel⟩
abbrev st_number_of : Stmt := top 10
abbrev N_number_of : List Str := ["n", "choice", "left", "number", "place", "thing", "at"]
theorem sc_number_of : FnScope N_number_of ["n", "choice"] (defScope st_number_of) := ⟨rfl, rfl, rfl, by decide +kernel, rfl, by decide +kernel, by decide +kernel⟩
abbrev st__law_begin : Stmt := top 12
abbrev N__law_begin : List Str := ["_law_script"]
theorem sc__law_begin : FnScope N__law_begin ["_law_script"] (defScope st__law_begin) := ⟨rfl, rfl, rfl, by decide +kernel, rfl, by decide +kernel, by decide +kernel⟩
abbrev st__law_next : Stmt := top 13
abbrev N__law_next : List Str := ["_law_draws", "_law_many", "_law_cell", "_law_digit"]
theorem sc__law_next : FnScope N__law_next ["_law_draws", "_law_many"] (defScope st__law_next) := ⟨rfl, rfl, rfl, by decide +kernel, rfl, by decide +kernel, by decide +kernel⟩
abbrev st__law_many_things : Stmt := top 14
abbrev N__law_many_things : List Str := ["_law_draws"]
theorem sc__law_many_things : FnScope N__law_many_things ["_law_draws"] (defScope st__law_many_things) := ⟨rfl, rfl, rfl, by decide +kernel, rfl, by decide +kernel, by decide +kernel⟩
abbrev st__law_choice : Stmt := top 15
abbrev N__law_choice : List Str := ["_law_draws", "_law_n", "_law_k", "_law_turn", "_law_left", "_law_found"]
theorem sc__law_choice : FnScope N__law_choice ["_law_draws", "_law_n", "_law_k"] (defScope st__law_choice) := ⟨rfl, rfl, rfl, by decide +kernel, rfl, by decide +kernel, by decide +kernel⟩
abbrev st__law_whole : Stmt := top 16
abbrev N__law_whole : List Str := ["_law_found", "_law_due"]
theorem sc__law_whole : FnScope N__law_whole ["_law_found", "_law_due"] (defScope st__law_whole) := ⟨rfl, rfl, rfl, by decide +kernel, rfl, by decide +kernel, by decide +kernel⟩
abbrev st__law_all : Stmt := top 17
abbrev N__law_all : List Str := ["_law_n", "_law_k", "_law_rows", "_law_place", "_law_longer", "_law_row", "_law_thing"]
theorem sc__law_all : FnScope N__law_all ["_law_n", "_law_k"] (defScope st__law_all) := ⟨rfl, rfl, rfl, by decide +kernel, rfl, by decide +kernel, by decide +kernel⟩
abbrev st__law_number : Stmt := top 18
abbrev N__law_number : List Str := ["_law_n", "_law_choice_here", "_law_number_here", "_law_place", "_law_thing", "_law_lesser", "_law_one"]
theorem sc__law_number : FnScope N__law_number ["_law_n", "_law_choice_here"] (defScope st__law_number) := ⟨rfl, rfl, rfl, by decide +kernel, rfl, by decide +kernel, by decide +kernel⟩
abbrev st__law_told : Stmt := top 19
abbrev N__law_told : List Str := ["_law_n", "_law_choice_here", "_law_number_here", "_law_found", "_law_thing"]
theorem sc__law_told : FnScope N__law_told ["_law_n", "_law_choice_here", "_law_number_here"] (defScope st__law_told) := ⟨rfl, rfl, rfl, by decide +kernel, rfl, by decide +kernel, by decide +kernel⟩
abbrev st__law_few : Stmt := top 20
abbrev N__law_few : List Str := ["_law_draws", "_law_n"]
theorem sc__law_few : FnScope N__law_few ["_law_draws"] (defScope st__law_few) := ⟨rfl, rfl, rfl, by decide +kernel, rfl, by decide +kernel, by decide +kernel⟩
abbrev st__law_great : Stmt := top 21
abbrev N__law_great : List Str := ["_law_draws", "_law_n", "_law_k", "_law_choice_here", "_law_many", "_law_less", "_law_number_here", "_law_one"]
theorem sc__law_great : FnScope N__law_great ["_law_draws"] (defScope st__law_great) := ⟨rfl, rfl, rfl, by decide +kernel, rfl, by decide +kernel, by decide +kernel⟩
abbrev st_law : Stmt := top 22
abbrev N_law : List Str := ["_law_script", "_law_draws", "_law_turn", "_law_n", "_law_k", "_law_number_here", "_law_choice_here"]
theorem sc_law : FnScope N_law ["_law_script"] (defScope st_law) := ⟨rfl, rfl, rfl, by decide +kernel, rfl, by decide +kernel, by decide +kernel⟩
section
variable {P : Program} {w : World} {K : PySem.W.Frag} {mg : Str → Option Value} {base : Heap}
theorem ok_is_whole (F : Dn K mg "is_whole" st_is_whole) (m_bool : mg "bool" = none) (m_int : mg "int" = none) (m_isinstance : mg "isinstance" = none) : Cl P w K mg base 1 "is_whole" ["thing"] sp_is_whole := by
  refine cl_of F sc_is_whole rfl (fun _ _ _ _ _ _ us hl => match us, hl with | [_], _ => rfl) (fun f cdv A outer s H E hr => ?_)
  unfold u_is_whole
  exact (ss_one (s_ret (e_and (e_cb c_isi (by rfl) m_isinstance (by decide +kernel) (a_cons (e_v 0) (a_cons (e_ty .int (by rfl) m_int (by decide +kernel)) a_nil))) (e_one (e_not (e_cb c_isi (by rfl) m_isinstance (by decide +kernel) (a_cons (e_v 0) (a_cons (e_ty .bl (by rfl) m_bool (by decide +kernel)) a_nil))))))))
theorem ok_is_thing (F : Dn K mg "is_thing" st_is_thing) (c_is_whole : Cl P w K mg base 1 "is_whole" ["thing"] sp_is_whole) : Cl P w K mg base 2 "is_thing" ["n", "thing"] sp_is_thing := by
  refine cl_of F sc_is_thing rfl (fun _ _ _ _ _ _ us hl => match us, hl with | [_, _], _ => rfl) (fun f cdv A outer s H E hr => ?_)
  unfold u_is_thing
  exact (ss_one (s_ret (e_and (e_cl c_is_whole hr (by decide) (by rfl) (takes_of rfl rfl rfl rfl) (a_cons (e_v 1) a_nil)) (e_one (e_chain o_le (o_lt hr.units0) e_int (e_v 1) (e_v 0))))))
theorem ok_is_choice (F : Dn K mg "is_choice" st_is_choice) (c_is_thing : Cl P w K mg base 2 "is_thing" ["n", "thing"] sp_is_thing) (m_all : mg "all" = none) (m_isinstance : mg "isinstance" = none) (m_len : mg "len" = none) (m_set : mg "set" = none) (m_tuple : mg "tuple" = none) : Cl P w K mg base 3 "is_choice" ["n", "k", "thing"] sp_is_choice := by
  refine cl_of F sc_is_choice rfl (fun _ _ _ _ _ _ us hl => match us, hl with | [_, _, _], _ => rfl) (fun f cdv A outer s H E hr => ?_)
  unfold u_is_choice
  exact (ss_cons (s_if (PW.pt (w_or (t_not (t_val (e_cb c_isi (by rfl) m_isinstance (by decide +kernel) (a_cons (e_v 2) (a_cons (e_ty .tup (by rfl) m_tuple (by decide +kernel)) a_nil))))) (w_or (t_cmp (o_ne hr.units) (e_cb c_len (by rfl) m_len (by decide +kernel) (a_cons (e_v 2) a_nil)) (e_v 1)) (w_or1 (t_not (t_val (e_cb c_all (by rfl) m_all (by decide +kernel) (a_cons (e_val (f_lc [("one", 3)] rfl rfl sc_is_choice.nd (i_sq (e_v 2)) (blkOk_by (own := [("one", 3)]) (N := N_is_choice) (sc := defScope st_is_choice) (by decide +kernel)) (fun _ _ _ _ _ => (g_v (i := 3) sc_is_choice.nd rfl (by first | exact Or.inl rfl | exact Or.inr rfl))) (fun _ _ _ _ _ => ts_nil) (fun _ _ _ _ _ => (e_cl c_is_thing hr (by decide) (by rfl) takes0 (a_cons (e_v 0) (a_cons (e_v 3) a_nil)))))) a_nil)))))))) (ss_one (s_ret e_bl)) ss_nil)
  (ss_one (s_ret (e_cmp (o_eq hr.units) (e_lenSet (by rfl) m_len (by rfl) m_set (e_v 2)) (e_v 1)))))
theorem ok_count (F : Dn K mg "count" st_count) (m_range : mg "range" = none) : Cl P w K mg base 1 "count" ["n", "k"] sp_count := by
  refine cl_of F sc_count rfl (fun _ _ _ _ _ _ us hl => match us, hl with | [_, _], _ => rfl) (fun f cdv A outer s H E hr => ?_)
  unfold u_count
  exact (ss_cons (s_set (i := 2) sc_count.nd rfl (by first | exact Or.inl rfl | exact Or.inr rfl) e_int)
  (ss_cons (s_for (vs := [3]) (passes_of rfl) rfl (i_r1 (by rfl) m_range (a_cons (e_v 1) a_nil)) (g_v (i := 3) sc_count.nd rfl (by first | exact Or.inl rfl | exact Or.inr rfl)) (ss_one (s_aug (i := 2) sc_count.nd rfl (by first | exact Or.inl rfl | exact Or.inr rfl) (e_op o_sub (e_v 0) (e_v 3)) oi_mul)))
  (ss_one (s_ret (e_v 2)))))
theorem ok_choice_at (F : Dn K mg "choice_at" st_choice_at) (c_count : Cl P w K mg base 1 "count" ["n", "k"] sp_count) (m_divmod : mg "divmod" = none) (m_list : mg "list" = none) (m_range : mg "range" = none) : Cl P w K mg base 2 "choice_at" ["n", "k", "number"] sp_choice_at := by
  refine cl_of F sc_choice_at rfl (fun _ _ _ _ _ _ us hl => match us, hl with | [_, _, _], _ => rfl) (fun f cdv A outer s H E hr => ?_)
  unfold u_choice_at
  exact (ss_cons (s_if (t_not (t_chain o_le (o_lt hr.units0) e_int (e_v 2) (e_cl c_count hr (by decide) (by rfl) (takes_of rfl rfl rfl rfl) (a_cons (e_v 0) (a_cons (e_v 1) a_nil))))) (ss_one s_no) ss_nil)
  (ss_cons (s_set (i := 3) sc_choice_at.nd rfl (by first | exact Or.inl rfl | exact Or.inr rfl) (e_trk (f_rg1 rfl (by rfl) m_list (by rfl) m_range (e_v 0))))
  (ss_cons (s_set (i := 4) sc_choice_at.nd rfl (by first | exact Or.inl rfl | exact Or.inr rfl) (e_tup a_nil))
  (ss_cons (s_for (vs := [5]) (passes_of rfl) rfl (i_r1 (by rfl) m_range (a_cons (e_v 1) a_nil)) (g_v (i := 5) sc_choice_at.nd rfl (by first | exact Or.inl rfl | exact Or.inr rfl)) (ss_cons (s_asg (vs := [6, 2]) (e_cb c_dvm (by rfl) m_divmod (by decide +kernel) (a_cons (e_v 2) (a_cons (e_cl c_count hr (by decide) (by rfl) (takes_of rfl rfl rfl rfl) (a_cons (e_op o_sub (e_op o_sub (e_v 0) (e_v 5)) e_int) (a_cons (e_op o_sub (e_op o_sub (e_v 1) (e_v 5)) e_int) a_nil))) a_nil))) (g_t rfl (gs_cons (g_v (i := 6) sc_choice_at.nd rfl (by first | exact Or.inl rfl | exact Or.inr rfl)) (gs_cons (g_v (i := 2) sc_choice_at.nd rfl (by first | exact Or.inl rfl | exact Or.inr rfl)) gs_nil))))
  (ss_one (s_aug (i := 4) sc_choice_at.nd rfl (by first | exact Or.inl rfl | exact Or.inr rfl) (e_tup (a_cons (e_mt PySem.F.plainAttrs_list PySem.F.slot_list_pop PySem.F.type_list_pop m_pop (e_v 3) (a_cons (e_v 6) a_nil)) a_nil)) oi_add))))
  (ss_one (s_ret (e_v 4)))))))
theorem ok_number_of (F : Dn K mg "number_of" st_number_of) (c_is_choice : Cl P w K mg base 3 "is_choice" ["n", "k", "thing"] sp_is_choice) (c_count : Cl P w K mg base 1 "count" ["n", "k"] sp_count) (m_enumerate : mg "enumerate" = none) (m_isinstance : mg "isinstance" = none) (m_len : mg "len" = none) (m_list : mg "list" = none) (m_range : mg "range" = none) (m_tuple : mg "tuple" = none) : Cl P w K mg base 4 "number_of" ["n", "choice"] sp_number_of := by
  refine cl_of F sc_number_of rfl (fun _ _ _ _ _ _ us hl => match us, hl with | [_, _], _ => rfl) (fun f cdv A outer s H E hr => ?_)
  unfold u_number_of
  exact (ss_cons (s_if (PW.pt (w_or (t_not (t_val (e_cb c_isi (by rfl) m_isinstance (by decide +kernel) (a_cons (e_v 1) (a_cons (e_ty .tup (by rfl) m_tuple (by decide +kernel)) a_nil))))) (w_or1 (t_not (t_val (e_cl c_is_choice hr (by decide) (by rfl) (takes_of rfl rfl rfl rfl) (a_cons (e_v 0) (a_cons (e_cb c_len (by rfl) m_len (by decide +kernel) (a_cons (e_v 1) a_nil)) (a_cons (e_v 1) a_nil))))))))) (ss_one s_no) ss_nil)
  (ss_cons (s_set (i := 2) sc_number_of.nd rfl (by first | exact Or.inl rfl | exact Or.inr rfl) (e_trk (f_rg1 rfl (by rfl) m_list (by rfl) m_range (e_v 0))))
  (ss_cons (s_set (i := 3) sc_number_of.nd rfl (by first | exact Or.inl rfl | exact Or.inr rfl) e_int)
  (ss_cons (s_for (vs := [4, 5]) (passes_of rfl) rfl (i_en (by rfl) m_enumerate (a_cons (e_v 1) a_nil)) (g_t rfl (gs_cons (g_v (i := 4) sc_number_of.nd rfl (by first | exact Or.inl rfl | exact Or.inr rfl)) (gs_cons (g_v (i := 5) sc_number_of.nd rfl (by first | exact Or.inl rfl | exact Or.inr rfl)) gs_nil))) (ss_cons (s_set (i := 6) sc_number_of.nd rfl (by first | exact Or.inl rfl | exact Or.inr rfl) (e_mt PySem.F.plainAttrs_list PySem.F.slot_list_index PySem.F.type_list_index (m_idx (hu65 hr)) (e_v 2) (a_cons (e_v 5) a_nil)))
  (ss_cons (s_aug (i := 3) sc_number_of.nd rfl (by first | exact Or.inl rfl | exact Or.inr rfl) (e_op o_mul (e_v 6) (e_cl c_count hr (by decide) (by rfl) (takes_of rfl rfl rfl rfl) (a_cons (e_op o_sub (e_op o_sub (e_v 0) (e_v 4)) e_int) (a_cons (e_op o_sub (e_op o_sub (e_cb c_len (by rfl) m_len (by decide +kernel) (a_cons (e_v 1) a_nil)) (e_v 4)) e_int) a_nil)))) oi_add)
  (ss_one (s_expr (e_mt PySem.F.plainAttrs_list PySem.F.slot_list_pop PySem.F.type_list_pop m_pop (e_v 2) (a_cons (e_v 6) a_nil)))))))
  (ss_one (s_ret (e_v 3)))))))
theorem ok__law_begin (F : Dn K mg "_law_begin" st__law_begin) (m_list : mg "list" = none) : Cl P w K mg base 1 "_law_begin" ["_law_script"] sp__law_begin := by
  refine cl_of F sc__law_begin rfl (fun _ _ _ _ _ _ us hl => match us, hl with | [_], _ => rfl) (fun f cdv A outer s H E hr => ?_)
  unfold u__law_begin
  exact (ss_one (s_ret (e_disp (pp_cons e_str (e_val (f_ct c_lst (by rfl) m_list (by decide +kernel) (a_cons (e_sl (e_v 0) o_none (o_some e_int)) a_nil))) (pp_cons e_str e_int (pp_cons e_str e_int (pp_cons e_str e_int pp_nil)))) (by rfl) (by rfl) (fun z => by cases z) (by decide))))
theorem ok__law_next (F : Dn K mg "_law_next" st__law_next) (m_len : mg "len" = none) : Cl P w K mg base 1 "_law_next" ["_law_draws", "_law_many"] sp__law_next := by
  refine cl_of F sc__law_next rfl (fun _ _ _ _ _ _ us hl => match us, hl with | [_, _], _ => rfl) (fun f cdv A outer s H E hr => ?_)
  unfold u__law_next
  exact (ss_cons (s_if (PW.pt (w_and (t_cmp (o_eq hr.units) (e_ix (hu_of hr) (e_v 0) e_str) e_int) (w_and1 (t_cmp (o_lt hr.units0) (e_ix (hu_of hr) (e_v 0) e_str) (e_cb c_len (by rfl) m_len (by decide +kernel) (a_cons (e_ix (hu_of hr) (e_v 0) e_str) a_nil)))))) (ss_cons (s_set (i := 2) sc__law_next.nd rfl (by first | exact Or.inl rfl | exact Or.inr rfl) (e_ix (hu_of hr) (e_ix (hu_of hr) (e_v 0) e_str) (e_ix (hu_of hr) (e_v 0) e_str)))
  (ss_cons (s_put (hu_of hr) (e_v 0) e_str (e_op o_add (e_ix (hu_of hr) (e_v 0) e_str) e_int))
  (ss_cons (s_put (hu_of hr) (e_v 0) e_str (e_op o_mod (e_op o_add (e_op o_add (e_op o_mul (e_ix (hu_of hr) (e_v 0) e_str) e_int) (e_op o_mod (e_v 2) (e_op o_pow e_int e_int))) e_int) e_int))
  (ss_one (s_put (hu_of hr) (e_v 0) e_str (e_if (t_cmp o_ge (e_v 2) (e_op o_pow e_int e_int)) (e_v 2) e_int)))))) ss_nil)
  (ss_cons (s_if (t_cmp (o_gt hr.units0) (e_ix (hu_of hr) (e_v 0) e_str) e_int) (ss_cons (s_set (i := 3) sc__law_next.nd rfl (by first | exact Or.inl rfl | exact Or.inr rfl) (e_op o_mod (e_ix (hu_of hr) (e_v 0) e_str) (e_v 1)))
  (ss_cons (s_put (hu_of hr) (e_v 0) e_str (e_op o_fdv (e_ix (hu_of hr) (e_v 0) e_str) (e_v 1)))
  (ss_one (s_ret (e_v 3))))) ss_nil)
  (ss_cons (s_put (hu_of hr) (e_v 0) e_str (e_op o_mod (e_op o_add (e_op o_mul (e_ix (hu_of hr) (e_v 0) e_str) e_int) e_int) e_int))
  (ss_one (s_ret (e_op o_mod (e_op o_fdv (e_op o_mod (e_op o_mul (e_ix (hu_of hr) (e_v 0) e_str) (e_ix (hu_of hr) (e_v 0) e_str)) e_int) e_int) (e_v 1)))))))
theorem ok__law_many_things (F : Dn K mg "_law_many_things" st__law_many_things) (c__law_next : Cl P w K mg base 1 "_law_next" ["_law_draws", "_law_many"] sp__law_next) : Cl P w K mg base 2 "_law_many_things" ["_law_draws"] sp__law_many_things := by
  refine cl_of F sc__law_many_things rfl (fun _ _ _ _ _ _ us hl => match us, hl with | [_], _ => rfl) (fun f cdv A outer s H E hr => ?_)
  unfold u__law_many_things
  exact (ss_one (s_ret (e_ix (hu_of hr) (e_val (f_lst (a_cons e_int (a_cons e_int (a_cons e_int (a_cons e_int (a_cons e_int (a_cons (e_op o_add e_int (e_cl c__law_next hr (by decide) (by rfl) (takes_of rfl rfl rfl rfl) (a_cons (e_v 0) (a_cons e_int a_nil)))) (a_cons (e_op o_add e_int (e_cl c__law_next hr (by decide) (by rfl) (takes_of rfl rfl rfl rfl) (a_cons (e_v 0) (a_cons e_int a_nil)))) a_nil))))))))) (e_cl c__law_next hr (by decide) (by rfl) (takes_of rfl rfl rfl rfl) (a_cons (e_v 0) (a_cons e_int a_nil))))))
theorem ok__law_choice (F : Dn K mg "_law_choice" st__law_choice) (c__law_next : Cl P w K mg base 1 "_law_next" ["_law_draws", "_law_many"] sp__law_next) (m_len : mg "len" = none) (m_list : mg "list" = none) (m_range : mg "range" = none) : Cl P w K mg base 2 "_law_choice" ["_law_draws", "_law_n", "_law_k"] sp__law_choice := by
  refine cl_of F sc__law_choice rfl (fun _ _ _ _ _ _ us hl => match us, hl with | [_, _, _], _ => rfl) (fun f cdv A outer s H E hr => ?_)
  unfold u__law_choice
  exact (ss_cons (s_par (i := 4) (j := 5) rfl sc__law_choice.nd rfl rfl (by decide) rfl rfl (a_cons (e_trk (f_rg1 rfl (by rfl) m_list (by rfl) m_range (e_v 1))) (a_cons (e_tup a_nil) a_nil)) (by rfl))
  (ss_cons (s_for (vs := [3]) (passes_of rfl) rfl (i_r1 (by rfl) m_range (a_cons (e_v 2) a_nil)) (g_v (i := 3) sc__law_choice.nd rfl (by first | exact Or.inl rfl | exact Or.inr rfl)) (ss_one (s_set (i := 5) sc__law_choice.nd rfl (by first | exact Or.inl rfl | exact Or.inr rfl) (e_op o_add (e_v 5) (e_tup (a_cons (e_mt PySem.F.plainAttrs_list PySem.F.slot_list_pop PySem.F.type_list_pop m_pop (e_v 4) (a_cons (e_cl c__law_next hr (by decide) (by rfl) (takes_of rfl rfl rfl rfl) (a_cons (e_v 0) (a_cons (e_cb c_len (by rfl) m_len (by decide +kernel) (a_cons (e_v 4) a_nil)) a_nil))) a_nil)) a_nil))))))
  (ss_one (s_ret (e_v 5)))))
theorem ok__law_whole (F : Dn K mg "_law_whole" st__law_whole) (m_bool : mg "bool" = none) (m_int : mg "int" = none) (m_isinstance : mg "isinstance" = none) : Cl P w K mg base 1 "_law_whole" ["_law_found", "_law_due"] sp__law_whole := by
  refine cl_of F sc__law_whole rfl (fun _ _ _ _ _ _ us hl => match us, hl with | [_, _], _ => rfl) (fun f cdv A outer s H E hr => ?_)
  unfold u__law_whole
  exact (ss_one (s_ret (e_and (e_cb c_isi (by rfl) m_isinstance (by decide +kernel) (a_cons (e_v 0) (a_cons (e_ty .int (by rfl) m_int (by decide +kernel)) a_nil))) (e_and (e_not (e_cb c_isi (by rfl) m_isinstance (by decide +kernel) (a_cons (e_v 0) (a_cons (e_ty .bl (by rfl) m_bool (by decide +kernel)) a_nil)))) (e_one (e_cmp (o_eq hr.units) (e_v 0) (e_v 1)))))))
theorem ok__law_all (F : Dn K mg "_law_all" st__law_all) (m_range : mg "range" = none) : Cl P w K mg base 1 "_law_all" ["_law_n", "_law_k"] sp__law_all := by
  refine cl_of F sc__law_all rfl (fun _ _ _ _ _ _ us hl => match us, hl with | [_, _], _ => rfl) (fun f cdv A outer s H E hr => ?_)
  unfold u__law_all
  exact (ss_cons (s_set (i := 2) sc__law_all.nd rfl (by first | exact Or.inl rfl | exact Or.inr rfl) (e_val (f_lst (a_cons (e_tup a_nil) a_nil))))
  (ss_cons (s_for (vs := [3]) (passes_of rfl) rfl (i_r1 (by rfl) m_range (a_cons (e_v 1) a_nil)) (g_v (i := 3) sc__law_all.nd rfl (by first | exact Or.inl rfl | exact Or.inr rfl)) (ss_cons (s_set (i := 4) sc__law_all.nd rfl (by first | exact Or.inl rfl | exact Or.inr rfl) (e_trk (f_lst a_nil)))
  (ss_cons (s_for (vs := [5]) (passes_of rfl) rfl (i_sq (e_v 2)) (g_v (i := 5) sc__law_all.nd rfl (by first | exact Or.inl rfl | exact Or.inr rfl)) (ss_one (s_expr (e_mt PySem.F.plainAttrs_list PySem.F.slot_list_extend PySem.F.type_list_extend m_ext (e_v 4) (a_cons (e_val (f_lc [("_law_thing", 6)] rfl rfl sc__law_all.nd (i_r1 (by rfl) m_range (a_cons (e_v 0) a_nil)) (blkOk_by (own := [("_law_thing", 6)]) (N := N__law_all) (sc := defScope st__law_all) (by decide +kernel)) (fun _ _ _ _ _ => (g_v (i := 6) sc__law_all.nd rfl (by first | exact Or.inl rfl | exact Or.inr rfl))) (fun _ _ _ _ _ => (ts_one (t_cmp (o_nin (hu65 hr)) (e_v 6) (e_v 5)))) (fun _ _ _ _ _ => (e_op o_add (e_v 5) (e_tup (a_cons (e_v 6) a_nil)))))) a_nil)))))
  (ss_one (s_set (i := 2) sc__law_all.nd rfl (by first | exact Or.inl rfl | exact Or.inr rfl) (e_fz (e_v 4)))))))
  (ss_one (s_ret (e_v 2)))))
theorem ok__law_number (F : Dn K mg "_law_number" st__law_number) (m_enumerate : mg "enumerate" = none) (m_len : mg "len" = none) (m_range : mg "range" = none) : Cl P w K mg base 1 "_law_number" ["_law_n", "_law_choice_here"] sp__law_number := by
  refine cl_of F sc__law_number rfl (fun _ _ _ _ _ _ us hl => match us, hl with | [_, _], _ => rfl) (fun f cdv A outer s H E hr => ?_)
  unfold u__law_number
  exact (ss_cons (s_set (i := 2) sc__law_number.nd rfl (by first | exact Or.inl rfl | exact Or.inr rfl) e_int)
  (ss_cons (s_for (vs := [3, 4]) (passes_of rfl) rfl (i_en (by rfl) m_enumerate (a_cons (e_v 1) a_nil)) (g_t rfl (gs_cons (g_v (i := 3) sc__law_number.nd rfl (by first | exact Or.inl rfl | exact Or.inr rfl)) (gs_cons (g_v (i := 4) sc__law_number.nd rfl (by first | exact Or.inl rfl | exact Or.inr rfl)) gs_nil))) (ss_cons (s_setLc [("_law_one", 6)] rfl (i := 5) (w := uVal) (fun _ _ _ _ h => tVal_of h) rfl sc__law_number.nd rfl rfl (sw_true rfl rfl rfl (by decide +kernel)) (i_r1 (by rfl) m_range (a_cons (e_v 4) a_nil)) (blkOk_by (own := [("_law_one", 6)]) (N := N__law_number) (sc := defScope st__law_number) (by decide +kernel)) (fun _ _ _ _ _ => (g_v (i := 6) sc__law_number.nd rfl (by first | exact Or.inl rfl | exact Or.inr rfl))) (fun _ _ _ _ _ => (ts_one (t_cmp (o_nin (hu65 hr)) (e_v 6) (e_sl (e_v 1) o_none (o_some (e_v 3)))))) (fun _ _ _ _ _ => (e_v 6)))
  (ss_one (s_set (i := 2) sc__law_number.nd rfl (by first | exact Or.inl rfl | exact Or.inr rfl) (e_op o_add (e_op o_mul (e_v 2) (e_op o_sub (e_v 0) (e_v 3))) (e_cb c_len (by rfl) m_len (by decide +kernel) (a_cons (e_v 5) a_nil)))))))
  (ss_one (s_ret (e_v 2)))))
theorem ok__law_told (F : Dn K mg "_law_told" st__law_told) (c_choice_at : Cl P w K mg base 2 "choice_at" ["n", "k", "number"] sp_choice_at) (c_number_of : Cl P w K mg base 4 "number_of" ["n", "choice"] sp_number_of) (c__law_whole : Cl P w K mg base 1 "_law_whole" ["_law_found", "_law_due"] sp__law_whole) (m_any : mg "any" = none) (m_bool : mg "bool" = none) (m_isinstance : mg "isinstance" = none) (m_len : mg "len" = none) (m_tuple : mg "tuple" = none) : Cl P w K mg base 5 "_law_told" ["_law_n", "_law_choice_here", "_law_number_here"] sp__law_told := by
  refine cl_of F sc__law_told rfl (fun _ _ _ _ _ _ us hl => match us, hl with | [_, _, _], _ => rfl) (fun f cdv A outer s H E hr => ?_)
  unfold u__law_told
  exact (ss_cons (s_set (i := 3) sc__law_told.nd rfl (by first | exact Or.inl rfl | exact Or.inr rfl) (e_cl c_choice_at hr (by decide) (by rfl) (takes_of rfl rfl rfl rfl) (a_cons (e_v 0) (a_cons (e_cb c_len (by rfl) m_len (by decide +kernel) (a_cons (e_v 1) a_nil)) (a_cons (e_v 2) a_nil)))))
  (ss_cons (s_if (PW.pt (w_or (t_not (t_val (e_cb c_isi (by rfl) m_isinstance (by decide +kernel) (a_cons (e_v 3) (a_cons (e_ty .tup (by rfl) m_tuple (by decide +kernel)) a_nil))))) (w_or (t_cmp (o_ne hr.units) (e_v 3) (e_v 1)) (w_or1 (t_val (e_cb c_any (by rfl) m_any (by decide +kernel) (a_cons (e_val (f_lc [("_law_thing", 4)] rfl rfl sc__law_told.nd (i_sq (e_v 3)) (blkOk_by (own := [("_law_thing", 4)]) (N := N__law_told) (sc := defScope st__law_told) (by decide +kernel)) (fun _ _ _ _ _ => (g_v (i := 4) sc__law_told.nd rfl (by first | exact Or.inl rfl | exact Or.inr rfl))) (fun _ _ _ _ _ => ts_nil) (fun _ _ _ _ _ => (e_cb c_isi (by rfl) m_isinstance (by decide +kernel) (a_cons (e_v 4) (a_cons (e_ty .bl (by rfl) m_bool (by decide +kernel)) a_nil)))))) a_nil))))))) (ss_one (s_ret e_bl)) ss_nil)
  (ss_one (s_ret (e_cl c__law_whole hr (by decide) (by rfl) (takes_of rfl rfl rfl rfl) (a_cons (e_cl c_number_of hr (by decide) (by rfl) (takes_of rfl rfl rfl rfl) (a_cons (e_v 0) (a_cons (e_v 1) a_nil))) (a_cons (e_v 2) a_nil)))))))
theorem ok__law_few (F : Dn K mg "_law_few" st__law_few) (c__law_next : Cl P w K mg base 1 "_law_next" ["_law_draws", "_law_many"] sp__law_next) (m_int : mg "int" = none) (m_min : mg "min" = none) : Cl P w K mg base 2 "_law_few" ["_law_draws"] sp__law_few := by
  refine cl_of F sc__law_few rfl (fun _ _ _ _ _ _ us hl => match us, hl with | [_], _ => rfl) (fun f cdv A outer s H E hr => ?_)
  unfold u__law_few
  exact (ss_cons (s_set (i := 1) sc__law_few.nd rfl (by first | exact Or.inl rfl | exact Or.inr rfl) (e_ix (hu_of hr) (e_val (f_lst (a_cons e_int (a_cons e_int (a_cons e_int (a_cons e_int (a_cons e_int (a_cons e_int (a_cons e_int (a_cons e_int a_nil)))))))))) (e_cl c__law_next hr (by decide) (by rfl) (takes_of rfl rfl rfl rfl) (a_cons (e_v 0) (a_cons e_int a_nil)))))
  (ss_one (s_ret (e_tup (a_cons (e_v 1) (a_cons (e_cb c_min (by rfl) m_min (by decide +kernel) (a_cons (e_v 1) (a_cons (e_cl c__law_next hr (by decide) (by rfl) (takes_of rfl rfl rfl rfl) (a_cons (e_v 0) (a_cons (e_ix (hu_of hr) (e_val (f_lst (a_cons e_int (a_cons e_int (a_cons e_int a_nil))))) (e_op o_add (e_ct c_int (by rfl) m_int (by decide +kernel) (a_cons (e_cmp (o_gt hr.units0) (e_v 1) e_int) a_nil)) (e_ct c_int (by rfl) m_int (by decide +kernel) (a_cons (e_cmp (o_gt hr.units0) (e_v 1) e_int) a_nil)))) a_nil))) a_nil))) a_nil))))))
theorem ok__law_great (F : Dn K mg "_law_great" st__law_great) (c__law_many_things : Cl P w K mg base 2 "_law_many_things" ["_law_draws"] sp__law_many_things) (c__law_next : Cl P w K mg base 1 "_law_next" ["_law_draws", "_law_many"] sp__law_next) (c__law_choice : Cl P w K mg base 2 "_law_choice" ["_law_draws", "_law_n", "_law_k"] sp__law_choice) (c__law_number : Cl P w K mg base 1 "_law_number" ["_law_n", "_law_choice_here"] sp__law_number) (c__law_told : Cl P w K mg base 5 "_law_told" ["_law_n", "_law_choice_here", "_law_number_here"] sp__law_told) (c_choice_at : Cl P w K mg base 2 "choice_at" ["n", "k", "number"] sp_choice_at) (m_len : mg "len" = none) (m_range : mg "range" = none) : Cl P w K mg base 6 "_law_great" ["_law_draws"] sp__law_great := by
  refine cl_of F sc__law_great rfl (fun _ _ _ _ _ _ us hl => match us, hl with | [_], _ => rfl) (fun f cdv A outer s H E hr => ?_)
  unfold u__law_great
  exact (ss_cons (s_set (i := 1) sc__law_great.nd rfl (by first | exact Or.inl rfl | exact Or.inr rfl) (e_cl c__law_many_things hr (by decide) (by rfl) (takes_of rfl rfl rfl rfl) (a_cons (e_v 0) a_nil)))
  (ss_cons (s_set (i := 2) sc__law_great.nd rfl (by first | exact Or.inl rfl | exact Or.inr rfl) (e_cl c__law_next hr (by decide) (by rfl) (takes_of rfl rfl rfl rfl) (a_cons (e_v 0) (a_cons (e_op o_add (e_v 1) e_int) a_nil))))
  (ss_cons (s_set (i := 3) sc__law_great.nd rfl (by first | exact Or.inl rfl | exact Or.inr rfl) (e_cl c__law_choice hr (by decide) (by rfl) (takes_of rfl rfl rfl rfl) (a_cons (e_v 0) (a_cons (e_v 1) (a_cons (e_v 2) a_nil)))))
  (ss_cons (s_if (t_not (t_val (e_cl c__law_told hr (by decide) (by rfl) (takes_of rfl rfl rfl rfl) (a_cons (e_v 1) (a_cons (e_v 3) (a_cons (e_cl c__law_number hr (by decide) (by rfl) (takes_of rfl rfl rfl rfl) (a_cons (e_v 1) (a_cons (e_v 3) a_nil))) a_nil)))))) (ss_one (s_ret e_bl)) ss_nil)
  (ss_cons (s_set (i := 4) sc__law_great.nd rfl (by first | exact Or.inl rfl | exact Or.inr rfl) e_int)
  (ss_cons (s_for (vs := [5]) (passes_of rfl) rfl (i_r1 (by rfl) m_range (a_cons (e_v 2) a_nil)) (g_v (i := 5) sc__law_great.nd rfl (by first | exact Or.inl rfl | exact Or.inr rfl)) (ss_one (s_set (i := 4) sc__law_great.nd rfl (by first | exact Or.inl rfl | exact Or.inr rfl) (e_op o_mul (e_v 4) (e_op o_sub (e_v 1) (e_v 5))))))
  (ss_cons (s_set (i := 6) sc__law_great.nd rfl (by first | exact Or.inl rfl | exact Or.inr rfl) (e_op o_mod (e_op o_add (e_op o_mul (e_cl c__law_next hr (by decide) (by rfl) (takes_of rfl rfl rfl rfl) (a_cons (e_v 0) (a_cons (e_op o_pow e_int e_int) a_nil))) (e_op o_pow e_int e_int)) (e_cl c__law_next hr (by decide) (by rfl) (takes_of rfl rfl rfl rfl) (a_cons (e_v 0) (a_cons (e_op o_pow e_int e_int) a_nil)))) (e_v 4)))
  (ss_cons (s_set (i := 7) sc__law_great.nd rfl (by first | exact Or.inl rfl | exact Or.inr rfl) (e_cl c_choice_at hr (by decide) (by rfl) (takes_of rfl rfl rfl rfl) (a_cons (e_v 1) (a_cons (e_v 2) (a_cons (e_v 6) a_nil)))))
  (ss_cons (s_if (PW.pt (w_or (t_cmp (o_ne hr.units) (e_cl c__law_number hr (by decide) (by rfl) (takes_of rfl rfl rfl rfl) (a_cons (e_v 1) (a_cons (e_v 7) a_nil))) (e_v 6)) (w_or (t_cmp (o_ne hr.units) (e_cb c_len (by rfl) m_len (by decide +kernel) (a_cons (e_v 7) a_nil)) (e_v 2)) (w_or1 (t_not (t_val (e_cl c__law_told hr (by decide) (by rfl) (takes_of rfl rfl rfl rfl) (a_cons (e_v 1) (a_cons (e_v 7) (a_cons (e_v 6) a_nil)))))))))) (ss_one (s_ret e_bl)) ss_nil)
  (ss_cons (s_if (PW.pt (w_and (t_cmp (o_lt hr.units0) (e_op o_add (e_v 6) e_int) (e_v 4)) (w_and1 (t_not (t_cmp (o_gt hr.units0) (e_cl c_choice_at hr (by decide) (by rfl) (takes_of rfl rfl rfl rfl) (a_cons (e_v 1) (a_cons (e_v 2) (a_cons (e_op o_add (e_v 6) e_int) a_nil)))) (e_v 7)))))) (ss_one (s_ret e_bl)) ss_nil)
  (ss_one (s_ret (e_or (e_cmp (o_eq hr.units) (e_v 6) e_int) (e_one (e_cmp (o_lt hr.units0) (e_cl c_choice_at hr (by decide) (by rfl) (takes_of rfl rfl rfl rfl) (a_cons (e_v 1) (a_cons (e_v 2) (a_cons (e_op o_sub (e_v 6) e_int) a_nil)))) (e_v 7))))))))))))))))
end
def d_is_whole : He.DefD := ⟨("is_whole", none), "is_whole", "is_whole", defArgs st_is_whole, defBody st_is_whole, defScope st_is_whole, [], []⟩
def d_is_thing : He.DefD := ⟨("is_thing", none), "is_thing", "is_thing", defArgs st_is_thing, defBody st_is_thing, defScope st_is_thing, [], []⟩
def d_is_choice : He.DefD := ⟨("is_choice", none), "is_choice", "is_choice", defArgs st_is_choice, defBody st_is_choice, defScope st_is_choice, [], []⟩
def d_count : He.DefD := ⟨("count", none), "count", "count", defArgs st_count, defBody st_count, defScope st_count, [], []⟩
def d_choice_at : He.DefD := ⟨("choice_at", none), "choice_at", "choice_at", defArgs st_choice_at, defBody st_choice_at, defScope st_choice_at, [], []⟩
def d_number_of : He.DefD := ⟨("number_of", none), "number_of", "number_of", defArgs st_number_of, defBody st_number_of, defScope st_number_of, [], []⟩
def d__law_begin : He.DefD := ⟨("_law_begin", none), "_law_begin", "_law_begin", defArgs st__law_begin, defBody st__law_begin, defScope st__law_begin, [], []⟩
def d__law_next : He.DefD := ⟨("_law_next", none), "_law_next", "_law_next", defArgs st__law_next, defBody st__law_next, defScope st__law_next, [], []⟩
def d__law_many_things : He.DefD := ⟨("_law_many_things", none), "_law_many_things", "_law_many_things", defArgs st__law_many_things, defBody st__law_many_things, defScope st__law_many_things, [], []⟩
def d__law_choice : He.DefD := ⟨("_law_choice", none), "_law_choice", "_law_choice", defArgs st__law_choice, defBody st__law_choice, defScope st__law_choice, [], []⟩
def d__law_whole : He.DefD := ⟨("_law_whole", none), "_law_whole", "_law_whole", defArgs st__law_whole, defBody st__law_whole, defScope st__law_whole, [], []⟩
def d__law_all : He.DefD := ⟨("_law_all", none), "_law_all", "_law_all", defArgs st__law_all, defBody st__law_all, defScope st__law_all, [], []⟩
def d__law_number : He.DefD := ⟨("_law_number", none), "_law_number", "_law_number", defArgs st__law_number, defBody st__law_number, defScope st__law_number, [], []⟩
def d__law_told : He.DefD := ⟨("_law_told", none), "_law_told", "_law_told", defArgs st__law_told, defBody st__law_told, defScope st__law_told, [], []⟩
def d__law_few : He.DefD := ⟨("_law_few", none), "_law_few", "_law_few", defArgs st__law_few, defBody st__law_few, defScope st__law_few, [], []⟩
def d__law_great : He.DefD := ⟨("_law_great", none), "_law_great", "_law_great", defArgs st__law_great, defBody st__law_great, defScope st__law_great, [], []⟩
def d_law : He.DefD := ⟨("law", none), "law", "law", defArgs st_law, defBody st_law, defScope st_law, [], []⟩
def fn : List He.DefD := [d_is_whole, d_is_thing, d_is_choice, d_count, d_choice_at, d_number_of, d__law_begin, d__law_next, d__law_many_things, d__law_choice, d__law_whole, d__law_all, d__law_number, d__law_told, d__law_few, d__law_great, d_law]
def fa : List He.Fa := [.glo "is_whole", .glo "is_thing", .glo "is_choice", .glo "count", .glo "choice_at", .glo "number_of", .glo "_law_begin", .glo "_law_next", .glo "_law_many_things", .glo "_law_choice", .glo "_law_whole", .glo "_law_all", .glo "_law_number", .glo "_law_told", .glo "_law_few", .glo "_law_great", .glo "law", .free "all", .free "any", .free "bool", .free "divmod", .free "enumerate", .free "int", .free "isinstance", .free "len", .free "list", .free "min", .free "range", .free "set", .free "tuple"]
abbrev R : PySem.W.OpenRow := PySem.W.OpenLaw.row PySem.Challenge.rw_orderrows_k03_choices_and_their_numbers
abbrev hk : PySem.W.Hook := He.hookD 4 fa fn
def ob (s : PySem.W.SharedT) : He.AlD := He.obsDG 4 fa fn (HandSHeadRun.getT s)
theorem ob_eq (s : PySem.W.SharedT) : ob s = hk.obs s.abs := He.obsDG_eq (HandSHeadRun.getT_eq s)
def loose : List PySem.Str := ["RowsError", "NoChoice", "NoNumber", "is_whole", "is_thing", "is_choice", "count", "choice_at", "number_of", "_law_begin", "_law_next", "_law_many_things", "_law_choice", "_law_whole", "_law_all", "_law_number", "_law_told", "_law_few", "_law_great"]
theorem run (w : World) : HandSHeadRun.RunEq R (PySem.W.view R.prog [22]) hk ob 4000 loose w := by
  intro os
  kernel_rfl
theorem okf_law {P : Program} {w : World} {K : PySem.W.Frag} {mg : Str → Option Value} {base : Heap} {f : Addr} {fd : FuncData} (F : FunD K "law" "law" (defArgs st_law) (defBody st_law) (defScope st_law) [] [] f fd) (c__law_begin : Cl P w K mg base 1 "_law_begin" ["_law_script"] sp__law_begin) (c__law_few : Cl P w K mg base 2 "_law_few" ["_law_draws"] sp__law_few) (c__law_all : Cl P w K mg base 1 "_law_all" ["_law_n", "_law_k"] sp__law_all) (c__law_told : Cl P w K mg base 5 "_law_told" ["_law_n", "_law_choice_here", "_law_number_here"] sp__law_told) (c__law_great : Cl P w K mg base 6 "_law_great" ["_law_draws"] sp__law_great) (m_all : mg "all" = none) (m_enumerate : mg "enumerate" = none) (m_range : mg "range" = none) : FnOk P w K mg base (L2.CX P w) 7 f fd ["_law_script"] (lift K sp_law) := by
  refine fn3 (m := 6) F sc_law rfl (fun cdv A outer s H E hr => ?_)
  unfold u_law
  exact (ss_cons (s_set (i := 1) sc_law.nd rfl (by first | exact Or.inl rfl | exact Or.inr rfl) (e_cl c__law_begin hr (by decide) (by rfl) (takes_of rfl rfl rfl rfl) (a_cons (e_v 0) a_nil)))
  (ss_cons (s_for (vs := [2]) (passes_of rfl) rfl (i_r1 (by rfl) m_range (a_cons e_int a_nil)) (g_v (i := 2) sc_law.nd rfl (by first | exact Or.inl rfl | exact Or.inr rfl)) (ss_cons (s_asg (vs := [3, 4]) (e_cl c__law_few hr (by decide) (by rfl) (takes_of rfl rfl rfl rfl) (a_cons (e_v 1) a_nil)) (g_t rfl (gs_cons (g_v (i := 3) sc_law.nd rfl (by first | exact Or.inl rfl | exact Or.inr rfl)) (gs_cons (g_v (i := 4) sc_law.nd rfl (by first | exact Or.inl rfl | exact Or.inr rfl)) gs_nil))))
  (ss_one (s_for (vs := [5, 6]) (passes_of rfl) rfl (i_en (by rfl) m_enumerate (a_cons (e_cl c__law_all hr (by decide) (by rfl) (takes_of rfl rfl rfl rfl) (a_cons (e_v 3) (a_cons (e_v 4) a_nil))) a_nil)) (g_t rfl (gs_cons (g_v (i := 5) sc_law.nd rfl (by first | exact Or.inl rfl | exact Or.inr rfl)) (gs_cons (g_v (i := 6) sc_law.nd rfl (by first | exact Or.inl rfl | exact Or.inr rfl)) gs_nil))) (ss_one (s_if (t_not (t_val (e_cl c__law_told hr (by decide) (by rfl) (takes_of rfl rfl rfl rfl) (a_cons (e_v 3) (a_cons (e_v 6) (a_cons (e_v 5) a_nil)))))) (ss_one (s_ret e_bl)) ss_nil))))))
  (ss_one (s_ret (e_cb c_all (by rfl) m_all (by decide +kernel) (a_cons (e_val (f_lc [("_law_turn", 2)] rfl rfl sc_law.nd (i_r1 (by rfl) m_range (a_cons e_int a_nil)) (blkOk_by (own := [("_law_turn", 2)]) (N := N_law) (sc := defScope st_law) (by decide +kernel)) (fun _ _ _ _ _ => (g_v (i := 2) sc_law.nd rfl (by first | exact Or.inl rfl | exact Or.inr rfl))) (fun _ _ _ _ _ => ts_nil) (fun _ _ _ _ _ => (e_cl c__law_great hr (by decide) (by rfl) takes0 (a_cons (e_v 1) a_nil))))) a_nil))))))
theorem facts {P : Program} {w : World} {K : PySem.W.Frag} {h : Heap} {mg : Str → Option Value} {f : Addr} (X : K.In h) (G : h.Ns mainGlobals mg) (hfa : mg ("law" : Str) = some (.ref f)) (c : He.SaysD fa fn K) :
    ∃ fd : FuncData, (∀ (s : Shared) (v : Value), BindsTo s fd ⟨[v], []⟩ [("_law_script", v)]) ∧ ∀ base : Heap, K.In base → base.Ns mainGlobals mg → FnOk P w K mg base (L2.CX P w) 7 f fd ["_law_script"] (lift K sp_law) := by
  obtain ⟨fd_is_whole, F_is_whole⟩ := c.def_ 0 (d := d_is_whole) rfl
  have D_is_whole : Dn K mg "is_whole" st_is_whole := ⟨_, fd_is_whole, F_is_whole, He.glo_ok X G (c.fact 0 (f := .glo "is_whole") rfl)⟩
  obtain ⟨fd_is_thing, F_is_thing⟩ := c.def_ 1 (d := d_is_thing) rfl
  have D_is_thing : Dn K mg "is_thing" st_is_thing := ⟨_, fd_is_thing, F_is_thing, He.glo_ok X G (c.fact 1 (f := .glo "is_thing") rfl)⟩
  obtain ⟨fd_is_choice, F_is_choice⟩ := c.def_ 2 (d := d_is_choice) rfl
  have D_is_choice : Dn K mg "is_choice" st_is_choice := ⟨_, fd_is_choice, F_is_choice, He.glo_ok X G (c.fact 2 (f := .glo "is_choice") rfl)⟩
  obtain ⟨fd_count, F_count⟩ := c.def_ 3 (d := d_count) rfl
  have D_count : Dn K mg "count" st_count := ⟨_, fd_count, F_count, He.glo_ok X G (c.fact 3 (f := .glo "count") rfl)⟩
  obtain ⟨fd_choice_at, F_choice_at⟩ := c.def_ 4 (d := d_choice_at) rfl
  have D_choice_at : Dn K mg "choice_at" st_choice_at := ⟨_, fd_choice_at, F_choice_at, He.glo_ok X G (c.fact 4 (f := .glo "choice_at") rfl)⟩
  obtain ⟨fd_number_of, F_number_of⟩ := c.def_ 5 (d := d_number_of) rfl
  have D_number_of : Dn K mg "number_of" st_number_of := ⟨_, fd_number_of, F_number_of, He.glo_ok X G (c.fact 5 (f := .glo "number_of") rfl)⟩
  obtain ⟨fd__law_begin, F__law_begin⟩ := c.def_ 6 (d := d__law_begin) rfl
  have D__law_begin : Dn K mg "_law_begin" st__law_begin := ⟨_, fd__law_begin, F__law_begin, He.glo_ok X G (c.fact 6 (f := .glo "_law_begin") rfl)⟩
  obtain ⟨fd__law_next, F__law_next⟩ := c.def_ 7 (d := d__law_next) rfl
  have D__law_next : Dn K mg "_law_next" st__law_next := ⟨_, fd__law_next, F__law_next, He.glo_ok X G (c.fact 7 (f := .glo "_law_next") rfl)⟩
  obtain ⟨fd__law_many_things, F__law_many_things⟩ := c.def_ 8 (d := d__law_many_things) rfl
  have D__law_many_things : Dn K mg "_law_many_things" st__law_many_things := ⟨_, fd__law_many_things, F__law_many_things, He.glo_ok X G (c.fact 8 (f := .glo "_law_many_things") rfl)⟩
  obtain ⟨fd__law_choice, F__law_choice⟩ := c.def_ 9 (d := d__law_choice) rfl
  have D__law_choice : Dn K mg "_law_choice" st__law_choice := ⟨_, fd__law_choice, F__law_choice, He.glo_ok X G (c.fact 9 (f := .glo "_law_choice") rfl)⟩
  obtain ⟨fd__law_whole, F__law_whole⟩ := c.def_ 10 (d := d__law_whole) rfl
  have D__law_whole : Dn K mg "_law_whole" st__law_whole := ⟨_, fd__law_whole, F__law_whole, He.glo_ok X G (c.fact 10 (f := .glo "_law_whole") rfl)⟩
  obtain ⟨fd__law_all, F__law_all⟩ := c.def_ 11 (d := d__law_all) rfl
  have D__law_all : Dn K mg "_law_all" st__law_all := ⟨_, fd__law_all, F__law_all, He.glo_ok X G (c.fact 11 (f := .glo "_law_all") rfl)⟩
  obtain ⟨fd__law_number, F__law_number⟩ := c.def_ 12 (d := d__law_number) rfl
  have D__law_number : Dn K mg "_law_number" st__law_number := ⟨_, fd__law_number, F__law_number, He.glo_ok X G (c.fact 12 (f := .glo "_law_number") rfl)⟩
  obtain ⟨fd__law_told, F__law_told⟩ := c.def_ 13 (d := d__law_told) rfl
  have D__law_told : Dn K mg "_law_told" st__law_told := ⟨_, fd__law_told, F__law_told, He.glo_ok X G (c.fact 13 (f := .glo "_law_told") rfl)⟩
  obtain ⟨fd__law_few, F__law_few⟩ := c.def_ 14 (d := d__law_few) rfl
  have D__law_few : Dn K mg "_law_few" st__law_few := ⟨_, fd__law_few, F__law_few, He.glo_ok X G (c.fact 14 (f := .glo "_law_few") rfl)⟩
  obtain ⟨fd__law_great, F__law_great⟩ := c.def_ 15 (d := d__law_great) rfl
  have D__law_great : Dn K mg "_law_great" st__law_great := ⟨_, fd__law_great, F__law_great, He.glo_ok X G (c.fact 15 (f := .glo "_law_great") rfl)⟩
  obtain ⟨fd_law, F_law⟩ := c.def_ 16 (d := d_law) rfl
  have D_law : Dn K mg "law" st_law := ⟨_, fd_law, F_law, He.glo_ok X G (c.fact 16 (f := .glo "law") rfl)⟩
  have m_all : mg "all" = none := He.free_ok X G (c.fact 17 (f := .free "all") rfl)
  have m_any : mg "any" = none := He.free_ok X G (c.fact 18 (f := .free "any") rfl)
  have m_bool : mg "bool" = none := He.free_ok X G (c.fact 19 (f := .free "bool") rfl)
  have m_divmod : mg "divmod" = none := He.free_ok X G (c.fact 20 (f := .free "divmod") rfl)
  have m_enumerate : mg "enumerate" = none := He.free_ok X G (c.fact 21 (f := .free "enumerate") rfl)
  have m_int : mg "int" = none := He.free_ok X G (c.fact 22 (f := .free "int") rfl)
  have m_isinstance : mg "isinstance" = none := He.free_ok X G (c.fact 23 (f := .free "isinstance") rfl)
  have m_len : mg "len" = none := He.free_ok X G (c.fact 24 (f := .free "len") rfl)
  have m_list : mg "list" = none := He.free_ok X G (c.fact 25 (f := .free "list") rfl)
  have m_min : mg "min" = none := He.free_ok X G (c.fact 26 (f := .free "min") rfl)
  have m_range : mg "range" = none := He.free_ok X G (c.fact 27 (f := .free "range") rfl)
  have m_set : mg "set" = none := He.free_ok X G (c.fact 28 (f := .free "set") rfl)
  have m_tuple : mg "tuple" = none := He.free_ok X G (c.fact 29 (f := .free "tuple") rfl)
  have e := hfa.symm.trans (He.glo_ok X G (c.fact 16 (f := .glo "law") rfl))
  cases e
  have b := FunD.bindsA (ps := ["_law_script"]) F_law fun _ _ _ _ _ _ us hl => match us, hl with | [_], _ => rfl
  refine ⟨fd_law, fun s v => b s [v] rfl, fun base _ _ => ?_⟩
  have fin : FnOk P w K mg base (L2.CX P w) 7 (He.ga K "law") fd_law ["_law_script"] (lift K sp_law) := by
    have c_is_whole : Cl P w K mg base 1 "is_whole" ["thing"] sp_is_whole := ok_is_whole D_is_whole m_bool m_int m_isinstance
    have c_is_thing : Cl P w K mg base 2 "is_thing" ["n", "thing"] sp_is_thing := ok_is_thing D_is_thing c_is_whole
    have c_is_choice : Cl P w K mg base 3 "is_choice" ["n", "k", "thing"] sp_is_choice := ok_is_choice D_is_choice c_is_thing m_all m_isinstance m_len m_set m_tuple
    have c_count : Cl P w K mg base 1 "count" ["n", "k"] sp_count := ok_count D_count m_range
    have c_choice_at : Cl P w K mg base 2 "choice_at" ["n", "k", "number"] sp_choice_at := ok_choice_at D_choice_at c_count m_divmod m_list m_range
    have c_number_of : Cl P w K mg base 4 "number_of" ["n", "choice"] sp_number_of := ok_number_of D_number_of c_is_choice c_count m_enumerate m_isinstance m_len m_list m_range m_tuple
    have c__law_begin : Cl P w K mg base 1 "_law_begin" ["_law_script"] sp__law_begin := ok__law_begin D__law_begin m_list
    have c__law_next : Cl P w K mg base 1 "_law_next" ["_law_draws", "_law_many"] sp__law_next := ok__law_next D__law_next m_len
    have c__law_many_things : Cl P w K mg base 2 "_law_many_things" ["_law_draws"] sp__law_many_things := ok__law_many_things D__law_many_things c__law_next
    have c__law_choice : Cl P w K mg base 2 "_law_choice" ["_law_draws", "_law_n", "_law_k"] sp__law_choice := ok__law_choice D__law_choice c__law_next m_len m_list m_range
    have c__law_whole : Cl P w K mg base 1 "_law_whole" ["_law_found", "_law_due"] sp__law_whole := ok__law_whole D__law_whole m_bool m_int m_isinstance
    have c__law_all : Cl P w K mg base 1 "_law_all" ["_law_n", "_law_k"] sp__law_all := ok__law_all D__law_all m_range
    have c__law_number : Cl P w K mg base 1 "_law_number" ["_law_n", "_law_choice_here"] sp__law_number := ok__law_number D__law_number m_enumerate m_len m_range
    have c__law_told : Cl P w K mg base 5 "_law_told" ["_law_n", "_law_choice_here", "_law_number_here"] sp__law_told := ok__law_told D__law_told c_choice_at c_number_of c__law_whole m_any m_bool m_isinstance m_len m_tuple
    have c__law_few : Cl P w K mg base 2 "_law_few" ["_law_draws"] sp__law_few := ok__law_few D__law_few c__law_next m_int m_min
    have c__law_great : Cl P w K mg base 6 "_law_great" ["_law_draws"] sp__law_great := ok__law_great D__law_great c__law_many_things c__law_next c__law_choice c__law_number c__law_told c_choice_at m_len m_range
    exact okf_law F_law c__law_begin c__law_few c__law_all c__law_told c__law_great m_all m_enumerate m_range
  exact fin
end Lw
open PySem PySem.W PySem.Calls PyProof.Rows
theorem PySem.Challenge.cw_orderrows_k03_choices_and_their_numbers_holds : PySem.Challenge.rw_orderrows_k03_choices_and_their_numbers.Holds := by
  w_on; o_law
  refine HandSHeadRun.head_any (r := OpenLaw.row PySem.Challenge.rw_orderrows_k03_choices_and_their_numbers) (q := view (OpenLaw.row PySem.Challenge.rw_orderrows_k03_choices_and_their_numbers).prog [22]) (H := Lw.hk) (ob := Lw.ob) (M := 4000) (loose := Lw.loose) (d := HandSHeadRun.topDef (OpenLaw.row PySem.Challenge.rw_orderrows_k03_choices_and_their_numbers).prog 22) (kwd := []) Lw.ob_eq
    (by kernel_rfl) (fun s => by kernel_rfl) Lw.run (by kernel_rfl) (by kernel_rfl) (by kernel_rfl) (by rfl) (by first | assumption | decide +kernel) (by decide +kernel) ⟨rfl, rfl, rfl, rfl, rfl, by decide +kernel⟩ ?hw ?hc
  case hw => w_witness2
  case hc =>
    refine L3.walk3 (l := PySem.Challenge.rw_orderrows_k03_choices_and_their_numbers) (n := 63) (k := 7) (x := "_law_script") (sp := Lw.sp_law) rfl (by decide) (by kernel_rfl) ⟨rfl, by decide, by decide⟩ ?F (fun ns hl => Lw.pure_law ns hl)
    intro w mg fa h Y G hmg0
    obtain ⟨K, KX, c⟩ := Y
    have hmg : mg ("law" : PySem.Str) = some (.ref fa) := by
      have e : (HandSHeadRun.topDef (OpenLaw.row PySem.Challenge.rw_orderrows_k03_choices_and_their_numbers).prog 22).name = ("law" : PySem.Str) := by kernel_rfl
      rw [← e]
      exact hmg0
    obtain ⟨fd, hb, hF⟩ := Lw.facts (P := (PySem.Challenge.rw_orderrows_k03_choices_and_their_numbers).prog) (w := w) KX G hmg c
    exact ⟨K, fd, KX, hb, hF⟩
