import PyProof.Rows.All
import Wide.All
import OpenK.AllK
import Wide.FinOn
import HandS.ForMost
import HandS.Walk
import HandS.IsInst
import HandS.Codes
import HandS.Wide
import HandS.Defaults
import HandS.MakeKwOnly
import KE.KDictList
import HandS.TupLe
import HandS.Exc
import HandS.ExcInit
import HandS.ExcField
import HandS.SortKw
import HandS.Zip
import HandS.NoneIn
import HandS.TryMany
import KE.GoesMore
import KE.KCallOwn
import HandS.TupAny
import HandS.FStr
import HandS.More
import HandS.OwnEq
import HandS.Style
import KE.DatumOrd
import KE.SortKeyHeap
import HandS.Keys
import KE.KDictCopyH
import PyProof.Rows.SortShellAny
import HandS.SortOrd
import KE.KDictZip
import KE.GoesZip
import HandS.Conv
import HandS.Flow
import HandS.Lambda
import HandS.Nested
import HandS.EndTab
import HandS.Strs
import HandS.SetFor
import HandS.ListItems
import HandS.HotCalls
import HandS.Rev
import HandS.Replace
import PySem.Challenge.RW_boxinbox_k74_whole_heaps_retold
set_option Elab.async false
set_option linter.all false
set_option maxRecDepth 100000
set_option maxHeartbeats 8000000
namespace PySem.W.Fast
theorem tw13910174133153392137 : True := trivial
theorem tw3531710291526583756 : True := trivial
theorem tw13845728635961594362 : True := trivial
theorem tw6849723899596977657 : True := trivial
theorem tw12967062905601613518 : True := trivial
theorem tw3452164406138426633 : True := trivial
theorem tw12615570614257752736 : True := trivial
theorem tw15520024797331560161 : True := trivial
theorem tw8737133026161208377 : True := trivial
theorem tw3836622041557442387 : True := trivial
theorem tw7249750611075261104 : True := trivial
theorem tw13826216819921723995 : True := trivial
theorem tw3731005952072516651 : True := trivial
theorem tw8712542819315378924 : True := trivial
theorem tw12423016402694147456 : True := trivial
theorem tw17513663227641334654 : True := trivial
theorem tw10466981693196891260 : True := trivial
theorem tw13182415659281952090 : True := trivial
theorem tw2606830484967024529 : True := trivial
theorem tw13344145872722352330 : True := trivial
end PySem.W.Fast
namespace VS
def Box (p : Prop) : Prop := p
theorem box {p : Prop} (h : p) : Box p = True := eq_true h
theorem unbox {p : Prop} (h : Box p) : p := h
end VS
namespace VS
open PySem L2 C8 PySem.Spec PyProof.Rows
/-! ### objects of own exception classes: their class, isinstance, == with own instances -/
section
open PySem.W
variable {prog : Program} {w : World} {A : Around} {E : Value → Shared → Prop} {s : Shared} {K : PySem.W.Frag} {x D : Addr} {ox od : Obj}
structure XcT (K : PySem.W.Frag) (D : Addr) : Prop where
  ga : PySem.W.findIn K (.ref D) "__getattribute__" = some (some (.builtin "BaseException.__getattribute__"))
  gg : PySem.W.findIn K (.ref D) "__getattr__" = some none
  exC : PySem.W.subIn K (.ref D) (.type "BaseException") = some true
  hd : PySem.W.hasDictIn K D = true
  ha : PySem.W.findIn K (.ref D) "__class__" = some (some (.builtin "object.__class__"))
  hn : PySem.W.specialIn K (.builtin "object.__class__") "__get__" = some (some (.builtin "getset_descriptor.__get__"))
  htk : PySem.W.takesIn K (.builtin "object.__class__") = some true
  hm : PySem.W.mroIn K D (.type "object") = some true
  eq : PySem.W.findIn K (.ref D) "__eq__" = some (some (.builtin "object.__eq__"))
theorem exc_class (T : XcT K D) {Q : Option Value → Shared → Prop} (X : K.In s.heap) (I : InstAt s.heap x ox D (some od)) (h : Q (some (.ref D)) { s with toks := s.toks + 1 }) : wpAny (model prog w) A (getAttr? (.ref x) "__class__") Q E s := by
  have hf : findObj K D (some od) "__class__" = some (.bind (.builtin "getset_descriptor.__get__") (.builtin "object.__class__")) := findObj_data (by obtain ⟨cd, hc, _⟩ := any_some T.hd; rw [hc]; rfl) T.ha T.hn T.htk
  obtain ⟨hp, g, d, t, os⟩ := s
  have L0 := I.type (M := model prog w)
  have L1 := looks_findIn (M := model prog w) X T.ga
  have L2 := looks_findIn (M := model prog w) X T.gg
  have L3 := looks_find (M := model prog w) X I hf
  have sub : Looks (model prog w) hp (isInstance (.ref x) (.type "BaseException")) true := L0.andThen (looks_subIn X T.exC)
  have hx2 : (Value.builtin "BaseException.__getattribute__" == Value.builtin "object.__getattribute__") = false := by decide +kernel
  have hx1 : (onTheHeap (Value.ref D) && Value.builtin "BaseException.__getattribute__" == Value.builtin "object.__getattribute__") = false := by rw [hx2]; rfl
  unfold getAttr? getAttrBy? getAttrBy
  refine wpAny_bind (wpAny_mkText (wpAny_bind (wpAny_attempt (wpAny_holding (wpAny_bind (L0.at (wpAny_bind (L1.at ?_))))))))
  show wpAny _ _ (if (onTheHeap (Value.ref D) && Value.builtin "BaseException.__getattribute__" == Value.builtin "object.__getattribute__") = true then _ else _) _ _ _
  rw [hx1, if_neg Bool.false_ne_true]
  unfold getAttrByItsOwn hookBefore
  refine wpAny_bind ?_
  rw [if_pos (show onTheHeap (Value.ref D) = true from rfl)]
  refine L2.at ?_
  refine wpAny_bind (wpAny_attempt (wpAny_holding ?_))
  unfold callGetattribute
  rw [show (false && onTheHeap (Value.builtin "BaseException.__getattribute__")) = false from rfl, if_neg Bool.false_ne_true]
  unfold boundAndCalled
  rw [PySem.F.excAttr_ValueError.ga.bind (.ref x)]
  refine wpAny_bind (wpAny_pure ?_)
  show wpAny _ _ (call (.builtin "BaseException.__getattribute__") [.ref x, .str "__class__" t]) _ _ _
  refine wpAny_call (codeAny_call_builtin PySem.F.excAttr_ValueError.ga.plain PySem.F.entry_bexc_ga ?_)
  refine @check_slot (model prog w) _ _ ⟨hp, g, d, t + 1, os⟩ "BaseException.__getattribute__" "BaseException" "__getattribute__" (.ref x) [.str "__class__" t] [] _ (by decide +kernel) (by decide +kernel) sub (PySem.F.args_bexc_ga (.ref x) (.str "__class__" t)) ?_
  unfold Builtin.«object.__getattribute__»
  refine wpAny_bind (wpAny_of_eq (a := ((Value.ref x : Value), [Value.str "__class__" t])) (by first | rfl | (simp only [slotArgs]; rfl)) ?_)
  refine wpAny_bind (wpAny_pure (wpAny_bind (L0.at (wpAny_bind (L3.at ?_)))))
  show wpAny _ _ (holding [Value.builtin "object.__class__"] (call (.builtin "getset_descriptor.__get__") [.builtin "object.__class__", .ref x, .ref D]) >>= ret) _ _ _
  refine wpAny_bind (wpAny_holding (wpAny_call (class_get (ox := ox) (od := some od) X I T.hm ?_)))
  refine wpAny_pure ?_
  show wpAny _ _ (handedOut (.ref D)) _ _ _
  rw [handedOut_of rfl]
  exact wpAny_pure (wpAny_pure h)
end
open PySem.W in
theorem kitx_exc {K : PySem.W.Frag} {x D : Addr} {ox od : Obj} (T : XcT K D) : PySem.W.KitX K (.ref x) (.ref D) (fun h => PySem.W.InstAt h x ox D (some od)) where
  ty := fun _ _ _ I => I.type
  it := fun _ _ X _ => by
    obtain ⟨cdD, hcD, _⟩ := any_some T.hd
    unfold clsIn at hcD
    split at hcD
    · rename_i c' d' cd' sl' ho
      intro A' Q' E' s' k q
      unfold isType loadHead
      exact wpAny_bind (wpAny_loadPart (k _ _ (X _ _ ho)) (wpAny_pure q))
    · cases hcD
  ne := fun h tp dd its n sl X htp => by
    obtain ⟨cdD, hcD, _⟩ := any_some T.hd
    refine Bool.eq_false_iff.mpr fun q => ?_
    have e : D = tp := Value.ref.inj (beq_iff_eq.mp q)
    subst e
    unfold clsIn at hcD
    split at hcD
    · rename_i c' d' cd' sl' ho
      have z := (X _ _ ho).symm.trans htp
      cases z
    · cases hcD
  ca := fun X I k => exc_class T X I k
section
variable {X : Cx} {pins : List (Addr × Obj)} {σ : L2.St} {H : Hp} {s : Shared}
/-- the class of a thing, also of an object of an own exception class -/
inductive TyZ (K : PySem.W.Frag) (H : Hp) : V → Value → Prop
  | x {v : V} {t : Value} (h : TyX K H v t) : TyZ K H v t
  | e {a C dd : Addr} {fs : List (Str × V)} (h : H a = some (exo a C (some dd))) (h2 : H dd = some (exd dd fs)) (T : XcT K C) : TyZ K H (.ref a) (.ref C)
theorem exo_inst {a C dd : Addr} {fs : List (Str × V)} (I : Inv X pins σ H s) (h : H a = some (exo a C (some dd))) (h2 : H dd = some (exd dd fs)) :
    ∃ ox od, PySem.W.InstAt s.heap a ox C (some od) ∧ s.heap.get? a = some ox ∧ ox.cls = .ref C := by
  obtain ⟨t1, ho⟩ := exo_at I.hok h
  obtain ⟨mA, ⟨od, es, ep, hd, _⟩, _⟩ := exd_at I.hok h2
  exact ⟨_, od, ⟨ho, rfl, rfl, hd⟩, ho, rfl⟩
theorem kit_ofZ {x : V} {u t : Value} (I : Inv X pins σ H s) (rx : RelV x u) (ty : TyZ X.K H x t) : ∃ P : Heap → Prop, PySem.W.KitX X.K u t P ∧ P s.heap ∧ u ≠ .builtin "__main__.__loader__#opaque" := by
  cases ty with
  | x h => exact kit_of I rx h
  | @e a C dd fs h h2 T =>
    cases (show u = Value.ref a from rx)
    obtain ⟨ox, od, J, _⟩ := exo_inst I h h2
    exact ⟨_, kitx_exc T, J, fun z => nomatch z⟩
def rIsiZ (K : PySem.W.Frag) : List V → Hp → VK → Prop := fun xs H Q => ∃ (x c : V) (t u : Value) (b : Bool), xs = [x, c] ∧ ClsV c u ∧ TyZ K H x t ∧ PySem.W.kitOne K t u = some b ∧ Q (.bl b) H
theorem c_isiZ : CallR X (.builtin "isinstance") (rIsiZ X.K) := by
  intro pins s σ H xs us Q I r h
  obtain ⟨x, c, t, u, b, rfl, k, ty, e, q⟩ := h
  obtain ⟨u1, u2, rfl, r1, r2⟩ := vals2 r
  have e2 := k.eq r2
  subst e2
  obtain ⟨P, Z, p, hx⟩ := kit_ofZ I r1 ty
  exact PySem.W.kia_one Z I.kIn p e hx fun tk => ⟨.bl b, H, I.tok tk, rfl, q⟩
end
end VS
namespace VS
open PySem L2
/-! values without the heap -/
inductive D where
  | non | bl (b : Bool) | int (i : Int) | str (x : Str) | ty (n : String) | ref (a : Addr)
  | rol (xs : List D) | hid | lst (xs : List D) | tup (xs : List D) | dK (kvs : List (Key × D)) | ins (C : Addr) (fs : List (Str × D)) | xcp (a dd C : Addr) (fs : List (Str × D)) | xv (C : Addr) (fs : List (Str × D))
/-- the objects that are known by reference -/
abbrev Sto := Addr → Option D
def put (S : Sto) (a : Addr) (d : D) : Sto := fun b => if b = a then some d else S b
def del (S : Sto) (a : Addr) : Sto := fun b => if b = a then none else S b
theorem put_same {S : Sto} {a : Addr} {d : D} : put S a d a = some d := by unfold put; rw [if_pos rfl]
theorem put_ne {S : Sto} {a b : Addr} {d : D} (h : b ≠ a) : put S a d b = S b := by unfold put; rw [if_neg h]
theorem put_put {S : Sto} {a : Addr} {d e : D} : put (put S a d) a e = put S a e := by
  funext b; unfold put; split <;> rfl
theorem del_same {S : Sto} {a : Addr} : del S a a = none := by unfold del; rw [if_pos rfl]
theorem del_ne {S : Sto} {a b : Addr} (h : b ≠ a) : del S a b = S b := by unfold del; rw [if_neg h]
theorem ne_at {S : Sto} {a b : Addr} {d : D} (h : S a = some d) (h' : S b = none) : a ≠ b := by
  intro e; subst e; rw [h] at h'; cases h'
abbrev Kl (K : PySem.W.Frag) (a : Addr) (xs : List V) : Prop :=
  ∃ (o : Obj) (its : Array Value) (n : Nat), K.lookup a = some o ∧ o.cls = .type "list" ∧ o.dict = none ∧ o.data = .seq its n ∧ its.size ≤ sizeLine ∧ Vals xs its.toList
abbrev Kt (K : PySem.W.Frag) (a : Addr) (xs : List V) : Prop :=
  ∃ (o : Obj) (its : Array Value) (n : Nat), K.lookup a = some o ∧ o.cls = .type "tuple" ∧ o.data = .seq its n ∧ its.size ≤ sizeLine ∧ Vals xs its.toList
section
variable (K : PySem.W.Frag) (H : Hp) (S : Sto)
mutual
/-- v is the value d, all of whose objects stand in H and are not known by reference -/
inductive Rep : V → D → Prop
  | non : Rep .non .non
  | bl (b : Bool) : Rep (.bl b) (.bl b)
  | int (i : Int) : Rep (.int i) (.int i)
  | str (x : Str) : Rep (.str x) (.str x)
  | ty (n : String) : Rep (.ty n) (.ty n)
  | ref (a : Addr) : Rep (.ref a) (.ref a)
  | rol {a : Addr} {xs : List V} {ds : List D} {o : Obj} (s : S a = none) (h : H a = some (.frz o (.lst xs))) (r : RepL xs ds) : Rep (.ref a) (.rol ds)
  | rolK {a : Addr} {xs : List V} {ds : List D} (h : Kl K a xs) (r : RepL xs ds) : Rep (.ref a) (.rol ds)
  | lst {a : Addr} {xs : List V} {ds : List D} (s : S a = none) (h : H a = some (.lst xs)) (r : RepL xs ds) : Rep (.ref a) (.lst ds)
  | tup {a : Addr} {xs : List V} {ds : List D} (s : S a = none) (h : H a = some (.tup xs)) (r : RepL xs ds) : Rep (.ref a) (.tup ds)
  | tupK {a : Addr} {xs : List V} {ds : List D} (h : Kt K a xs) (r : RepL xs ds) : Rep (.ref a) (.tup ds)
  | dK {a : Addr} {kvs : List (Key × V)} {ds : List (Key × D)} (s : S a = none) (h : Rd H a (.dK kvs)) (r : RepK kvs ds) : Rep (.ref a) (.dK ds)
  | ins {a C dx : Addr} {fs : List (Str × V)} {ds : List (Str × D)} (s : S a = none) (h : H a = some (.ins C dx fs)) (r : RepF fs ds) : Rep (.ref a) (.ins C ds)
  | xcp {a dd C : Addr} {fs : List (Str × V)} {ds : List (Str × D)} (s : S dd = none) (h : H dd = some (.xd fs)) (r : RepF fs ds) : Rep (.ref a) (.xcp a dd C ds)
  | xv {a C dd : Addr} {fs : List (Str × V)} {ds : List (Str × D)} (s : S a = none) (h : H a = some (exo a C (some dd))) (s2 : S dd = none) (h2 : H dd = some (exd dd fs)) (r : RepF fs ds) : Rep (.ref a) (.xv C ds)
inductive RepL : List V → List D → Prop
  | nil : RepL [] []
  | cons {v : V} {vs : List V} {d : D} {ds : List D} (h : Rep v d) (t : RepL vs ds) : RepL (v :: vs) (d :: ds)
inductive RepK : List (Key × V) → List (Key × D) → Prop
  | nil : RepK [] []
  | cons {k : Key} {v : V} {vs : List (Key × V)} {d : D} {ds : List (Key × D)} (h : Rep v d) (t : RepK vs ds) : RepK ((k, v) :: vs) ((k, d) :: ds)
inductive RepF : List (Str × V) → List (Str × D) → Prop
  | nil : RepF [] []
  | cons {k : Str} {v : V} {vs : List (Str × V)} {d : D} {ds : List (Str × D)} (h : Rep v d) (t : RepF vs ds) : RepF ((k, v) :: vs) ((k, d) :: ds)
end
end
/-- from (S, H) to (S', H'): what is not known by reference stays, so does what is hidden -/
structure Mk (S : Sto) (H : Hp) (S' : Sto) (H' : Hp) : Prop where
  keep : ∀ a o, S a = none → H a = some o → H' a = some o
  fresh : ∀ a, S a = none → H a ≠ none → S' a = none
structure Mv (S : Sto) (H : Hp) (S' : Sto) (H' : Hp) : Prop extends Mk S H S' H' where
  hid : ∀ a o, S a = some .hid → H a = some o → H' a = some o ∧ S' a = some .hid
theorem Mv.refl {S : Sto} {H : Hp} : Mv S H S H := ⟨⟨fun _ _ _ h => h, fun _ h _ => h⟩, fun _ _ h e => ⟨e, h⟩⟩
theorem Mv.trans {S S1 S2 : Sto} {H H1 H2 : Hp} (a : Mv S H S1 H1) (b : Mv S1 H1 S2 H2) : Mv S H S2 H2 where
  keep := fun x o s h => b.keep x o (a.fresh x s (by rw [h]; simp)) (a.keep x o s h)
  fresh := fun x s h => by
    cases q : H x with
    | none => exact absurd q h
    | some o => exact b.fresh x (a.fresh x s h) (by rw [a.keep x o s q]; simp)
  hid := fun x o s h => let ⟨e1, e2⟩ := a.hid x o s h; b.hid x o e2 e1
/-- the same, but dicts may be locked, or freed again -/
def nrm : HO → HO
  | .frz _ (.dK k) => .dK k
  | o => o
structure Ml (S : Sto) (H : Hp) (S' : Sto) (H' : Hp) : Prop where
  kp : ∀ a o, S a = none → H a = some o → ∃ o', H' a = some o' ∧ nrm o' = nrm o
  fresh : ∀ a, S a = none → H a ≠ none → S' a = none
theorem Mk.ml {S S' : Sto} {H H' : Hp} (m : Mk S H S' H') : Ml S H S' H' := ⟨fun a o s h => ⟨o, m.keep a o s h, rfl⟩, m.fresh⟩
theorem nrm_eq {o o' : HO} (e : nrm o' = nrm o) (nd : ∀ k, nrm o ≠ .dK k) : o' = nrm o := by
  unfold nrm at e
  split at e
  · exact absurd e.symm (nd _)
  · exact e
theorem Ml.keep {S S' : Sto} {H H' : Hp} (m : Ml S H S' H') (a : Addr) (o : HO) (s : S a = none) (h : H a = some o) (nd : nrm o = o ∧ ∀ k, nrm o ≠ .dK k := by exact ⟨rfl, fun _ e => by cases e⟩) : H' a = some o := by
  obtain ⟨o', h', e⟩ := m.kp a o s h
  rw [h', nrm_eq e nd.2, nd.1]
theorem Ml.keepD {S S' : Sto} {H H' : Hp} (m : Ml S H S' H') {a : Addr} {k : List (Key × V)} (s : S a = none) (h : Rd H a (.dK k)) : Rd H' a (.dK k) := by
  have fin : ∀ o, H a = some o → nrm o = .dK k → Rd H' a (.dK k) := fun o ho e => by
    obtain ⟨o', h', e'⟩ := m.kp a o s ho
    rw [e] at e'
    unfold nrm at e'
    split at e'
    · cases e'
      exact .inr ⟨_, h'⟩
    · rw [e'] at h'
      exact .inl h'
  rcases h with h | ⟨o, h⟩
  · exact fin _ h rfl
  · exact fin _ h rfl
theorem rd_ne {H : Hp} {a : Addr} {u : HO} (h : Rd H a u) : H a ≠ none := by
  rcases h with h | ⟨o, h⟩ <;> (rw [h]; simp)
section
variable {K : PySem.W.Frag} {S S' : Sto} {H H' : Hp}
mutual
theorem Rep.ml (m : Ml S H S' H') : ∀ {v : V} {d : D}, Rep K H S v d → Rep K H' S' v d
  | _, _, .non => .non
  | _, _, .bl b => .bl b
  | _, _, .int i => .int i
  | _, _, .str x => .str x
  | _, _, .ty n => .ty n
  | _, _, .ref a => .ref a
  | _, _, .rol s h r => .rol (m.fresh _ s (by rw [h]; simp)) (m.keep _ _ s h) (RepL.ml m r)
  | _, _, .rolK h r => .rolK h (RepL.ml m r)
  | _, _, .lst s h r => .lst (m.fresh _ s (by rw [h]; simp)) (m.keep _ _ s h) (RepL.ml m r)
  | _, _, .tup s h r => .tup (m.fresh _ s (by rw [h]; simp)) (m.keep _ _ s h) (RepL.ml m r)
  | _, _, .tupK h r => .tupK h (RepL.ml m r)
  | _, _, .dK s h r => .dK (m.fresh _ s (rd_ne h)) (m.keepD s h) (RepK.ml m r)
  | _, _, .ins s h r => .ins (m.fresh _ s (by rw [h]; simp)) (m.keep _ _ s h) (RepF.ml m r)
  | _, _, .xcp s h r => .xcp (m.fresh _ s (by rw [h]; simp)) (m.keep _ _ s h) (RepF.ml m r)
  | _, _, .xv s h s2 h2 r => .xv (m.fresh _ s (by rw [h]; simp)) (m.keep _ _ s h) (m.fresh _ s2 (by rw [h2]; simp)) (m.keep _ _ s2 h2) (RepF.ml m r)
theorem RepL.ml (m : Ml S H S' H') : ∀ {vs : List V} {ds : List D}, RepL K H S vs ds → RepL K H' S' vs ds
  | _, _, .nil => .nil
  | _, _, .cons h t => .cons (Rep.ml m h) (RepL.ml m t)
theorem RepK.ml (m : Ml S H S' H') : ∀ {vs : List (Key × V)} {ds : List (Key × D)}, RepK K H S vs ds → RepK K H' S' vs ds
  | _, _, .nil => .nil
  | _, _, .cons h t => .cons (Rep.ml m h) (RepK.ml m t)
theorem RepF.ml (m : Ml S H S' H') : ∀ {vs : List (Str × V)} {ds : List (Str × D)}, RepF K H S vs ds → RepF K H' S' vs ds
  | _, _, .nil => .nil
  | _, _, .cons h t => .cons (Rep.ml m h) (RepF.ml m t)
end
theorem Rep.mk (m : Mk S H S' H') {v : V} {d : D} (r : Rep K H S v d) : Rep K H' S' v d := Rep.ml m.ml r
theorem RepL.mk (m : Mk S H S' H') {vs : List V} {ds : List D} (r : RepL K H S vs ds) : RepL K H' S' vs ds := RepL.ml m.ml r
theorem RepK.mk (m : Mk S H S' H') {vs : List (Key × V)} {ds : List (Key × D)} (r : RepK K H S vs ds) : RepK K H' S' vs ds := RepK.ml m.ml r
theorem RepF.mk (m : Mk S H S' H') {vs : List (Str × V)} {ds : List (Str × D)} (r : RepF K H S vs ds) : RepF K H' S' vs ds := RepF.ml m.ml r
theorem Rep.mv {v : V} {d : D} (r : Rep K H S v d) (m : Mv S H S' H') : Rep K H' S' v d := Rep.mk m.toMk r
theorem RepL.mv {v : List V} {d : List D} (r : RepL K H S v d) (m : Mv S H S' H') : RepL K H' S' v d := RepL.mk m.toMk r
theorem RepK.mv {v : List (Key × V)} {d : List (Key × D)} (r : RepK K H S v d) (m : Mv S H S' H') : RepK K H' S' v d := RepK.mk m.toMk r
theorem RepF.mv {v : List (Str × V)} {d : List (Str × D)} (r : RepF K H S v d) (m : Mv S H S' H') : RepF K H' S' v d := RepF.mk m.toMk r
theorem RepL.length : ∀ {vs : List V} {ds : List D}, RepL K H S vs ds → vs.length = ds.length
  | _, _, .nil => rfl
  | _, _, .cons _ t => congrArg Nat.succ (RepL.length t)
theorem RepL.get : ∀ {vs : List V} {ds : List D} {i : Nat} {d : D}, RepL K H S vs ds → ds[i]? = some d → ∃ v, vs[i]? = some v ∧ Rep K H S v d
  | _, _, _, _, .nil, e => by simp at e
  | _, _, 0, _, .cons h _, e => by simp at e; subst e; exact ⟨_, rfl, h⟩
  | _, _, i + 1, d, .cons _ t, e => by
    obtain ⟨v, h1, h2⟩ := RepL.get (i := i) (d := d) t (by simpa using e)
    exact ⟨v, by simpa using h1, h2⟩
theorem RepL.append : ∀ {xs ys : List V} {us ws : List D}, RepL K H S xs us → RepL K H S ys ws → RepL K H S (xs ++ ys) (us ++ ws)
  | _, _, _, _, .nil, s => s
  | _, _, _, _, .cons r t, s => .cons r (RepL.append t s)
theorem RepL.set {x : V} {u : D} (r : Rep K H S x u) : ∀ {xs : List V} {us : List D} (i : Nat), RepL K H S xs us → RepL K H S (xs.set i x) (us.set i u)
  | _, _, _, .nil => .nil
  | _, _, 0, .cons _ t => .cons r t
  | _, _, i + 1, .cons q t => .cons q (RepL.set r i t)
theorem RepL.take : ∀ {xs : List V} {us : List D} (n : Nat), RepL K H S xs us → RepL K H S (xs.take n) (us.take n)
  | _, _, 0, _ => .nil
  | _, _, _ + 1, .nil => .nil
  | _, _, n + 1, .cons r t => .cons r (RepL.take n t)
theorem RepL.drop : ∀ {xs : List V} {us : List D} (n : Nat), RepL K H S xs us → RepL K H S (xs.drop n) (us.drop n)
  | _, _, 0, r => r
  | _, _, _ + 1, .nil => .nil
  | _, _, n + 1, .cons _ t => RepL.drop n t
theorem RepL.strs : ∀ {vs : List V} {ns : List Str}, RepL K H S vs (ns.map D.str) → vs = ns.map V.str
  | _, [], .nil => rfl
  | _, n :: ns, .cons (.str _) t => congrArg (V.str n :: ·) (RepL.strs t)
theorem RepL.bls : ∀ {vs : List V} {ns : List Bool}, RepL K H S vs (ns.map D.bl) → vs = ns.map V.bl
  | _, [], .nil => rfl
  | _, n :: ns, .cons (.bl _) t => congrArg (V.bl n :: ·) (RepL.bls t)
theorem RepL.ofInts : ∀ {ns : List Int}, RepL K H S (ns.map V.int) (ns.map D.int)
  | [] => .nil
  | n :: _ => .cons (.int n) RepL.ofInts
theorem RepL.ofStrs : ∀ {ns : List Str}, RepL K H S (ns.map V.str) (ns.map D.str)
  | [] => .nil
  | n :: _ => .cons (.str n) RepL.ofStrs
theorem RepF.lookup {f : Str} {d : D} : ∀ {vs : List (Str × V)} {ds : List (Str × D)}, RepF K H S vs ds → ds.lookup f = some d → ∃ v, vs.lookup f = some v ∧ Rep K H S v d
  | _, _, .nil, e => by cases e
  | _, _, .cons (k := k) h t, e => by
    by_cases q : f == k
    · rw [List.lookup_cons, q] at e
      cases e
      exact ⟨_, by rw [List.lookup_cons, q], h⟩
    · have q' : (f == k) = false := by simpa using q
      rw [List.lookup_cons, q'] at e
      obtain ⟨v, h1, h2⟩ := RepF.lookup t e
      exact ⟨v, by rw [List.lookup_cons, q']; exact h1, h2⟩
theorem RepF.lookup_none {f : Str} : ∀ {vs : List (Str × V)} {ds : List (Str × D)}, RepF K H S vs ds → ds.lookup f = none → vs.lookup f = none
  | _, _, .nil, _ => rfl
  | _, _, .cons (k := k) h t, e => by
    by_cases q : f == k
    · rw [List.lookup_cons, q] at e
      cases e
    · have q' : (f == k) = false := by simpa using q
      rw [List.lookup_cons, q'] at e
      rw [List.lookup_cons, q']
      exact RepF.lookup_none t e
theorem RepF.length : ∀ {vs : List (Str × V)} {ds : List (Str × D)}, RepF K H S vs ds → vs.length = ds.length
  | _, _, .nil => rfl
  | _, _, .cons _ t => congrArg Nat.succ (RepF.length t)
def putD (f : Str) (v : D) : List (Str × D) → List (Str × D)
  | [] => [(f, v)]
  | (g, u) :: r => if g = f then (g, v) :: r else (g, u) :: putD f v r
theorem RepF.put {f : Str} {v : V} {d : D} (r : Rep K H S v d) : ∀ {vs : List (Str × V)} {ds : List (Str × D)}, RepF K H S vs ds → RepF K H S (putF f v vs) (putD f d ds)
  | _, _, .nil => .cons r .nil
  | _, _, .cons (k := k) h t => by
    unfold putD putF
    by_cases q : k = f
    · rw [if_pos q, if_pos q]; exact .cons r t
    · rw [if_neg q, if_neg q]; exact .cons h (RepF.put r t)
theorem Rep.seqL {v : V} {ds : List D} (r : Rep K H S v (.lst ds)) : ∃ a xs, v = .ref a ∧ S a = none ∧ H a = some (.lst xs) ∧ RepL K H S xs ds := by
  cases r with
  | lst s h r => exact ⟨_, _, rfl, s, h, r⟩
theorem Rep.seqR {v : V} {ds : List D} (r : Rep K H S v (.rol ds)) : ∃ a xs, v = .ref a ∧ (∀ S' H', Mv S H S' H' → SqL K H' a xs) ∧ RepL K H S xs ds := by
  cases r with
  | rol s h r => exact ⟨_, _, rfl, fun S' H' m => .inl (.inr ⟨_, m.keep _ _ s h⟩), r⟩
  | rolK h r => exact ⟨_, _, rfl, fun _ _ _ => .inr h, r⟩
theorem Rep.seqT {v : V} {ds : List D} (r : Rep K H S v (.tup ds)) : ∃ a xs, v = .ref a ∧ SqT K H a xs ∧ RepL K H S xs ds := by
  cases r with
  | tup s h r => exact ⟨_, _, rfl, .inl (.inl h), r⟩
  | tupK h r => exact ⟨_, _, rfl, .inr h, r⟩
end
/-! what is known by reference stands -/
def CellOk (K : PySem.W.Frag) (H : Hp) (S : Sto) (a : Addr) : D → Prop
  | .lst ds => ∃ xs, H a = some (.lst xs) ∧ RepL K H S xs ds
  | .dK ds => ∃ kvs, H a = some (.dK kvs) ∧ RepK K H S kvs ds
  | .ins C ds => ∃ dx fs, H a = some (.ins C dx fs) ∧ RepF K H S fs ds
  | .hid => ∃ o, H a = some o
  | .str q => ∃ ps : Array Value, H a = some (.tbl ps) ∧ TriplesOk ps.toList ∧ ∀ (pos : Pos) (cv : Value), codeAmong pos ps.toList = some cv → ∃ c, cv = .ref c ∧ S c = none ∧ H c = some (LamX.CodeO c q)
  | _ => False
theorem cell_l {K : PySem.W.Frag} {H : Hp} {S : Sto} {a : Addr} {xs : List V} {ds : List D} (h : H a = some (.lst xs)) (r : RepL K H S xs ds) : CellOk K H S a (.lst ds) := ⟨xs, h, r⟩
theorem cell_i {K : PySem.W.Frag} {H : Hp} {S : Sto} {a C dx : Addr} {xs : List (Str × V)} {ds : List (Str × D)} (h : H a = some (.ins C dx xs)) (r : RepF K H S xs ds) : CellOk K H S a (.ins C ds) := ⟨dx, xs, h, r⟩
/-- the whole of what is known by reference: S, and what is hidden -/
structure Cells (K : PySem.W.Frag) (H : Hp) (S T : Sto) : Prop where
  ov : ∀ a, (T a = S a ∧ T a ≠ some .hid) ∨ (S a = none ∧ T a = some .hid)
  ok : ∀ a d, T a = some d → CellOk K H T a d
section
variable {K : PySem.W.Frag} {S S' T T' : Sto} {H H' : Hp} {a p : Addr} {d : D}
theorem Cells.at (c : Cells K H S T) (h : S a = some d) : T a = some d := by
  rcases c.ov a with ⟨e, _⟩ | ⟨e, _⟩
  · rw [e]; exact h
  · rw [h] at e; cases e
theorem CellOk.mk (m : Mk S H S' H') (e : H' a = H a) : ∀ {d : D}, CellOk K H S a d → CellOk K H' S' a d
  | .lst _, ⟨xs, h, r⟩ => ⟨xs, by rw [e]; exact h, r.mk m⟩
  | .dK _, ⟨xs, h, r⟩ => ⟨xs, by rw [e]; exact h, r.mk m⟩
  | .ins _ _, ⟨dx, fs, h, r⟩ => ⟨dx, fs, by rw [e]; exact h, r.mk m⟩
  | .hid, ⟨o, h⟩ => ⟨o, by rw [e]; exact h⟩
  | .str _, ⟨ps, h, t, w⟩ => ⟨ps, by rw [e]; exact h, t, fun pos cv hc =>
    let ⟨c, e1, e2, e3⟩ := w pos cv hc
    ⟨c, e1, m.fresh c e2 (by rw [e3]; simp), m.keep c _ e2 e3⟩⟩
theorem CellOk.mv (m : Mv S H S' H') (e : H' a = H a) {d : D} (h : CellOk K H S a d) : CellOk K H' S' a d := CellOk.mk m.toMk e h
theorem CellOk.there : ∀ {d : D}, CellOk K H S a d → H a ≠ none
  | .lst _, ⟨xs, h, _⟩ => by rw [h]; simp
  | .dK _, ⟨xs, h, _⟩ => by rw [h]; simp
  | .ins _ _, ⟨dx, fs, h, _⟩ => by rw [h]; simp
  | .hid, ⟨o, h⟩ => by rw [h]; simp
  | .str _, ⟨ps, h, _⟩ => by rw [h]; simp
theorem Cells.free (c : Cells K H S T) (h : H p = none) : T p = none := by
  cases q : T p with
  | none => rfl
  | some d => exact absurd h (c.ok p d q).there
theorem Cells.freeS (c : Cells K H S T) (h : H p = none) : S p = none := by
  have q := c.free h
  rcases c.ov p with ⟨e, _⟩ | ⟨e, _⟩
  · rw [← e]; exact q
  · exact e
/-- a new object, known by value -/
theorem mv_new {o : HO} (h : H p = none) : Mv S H S (upd H p o) :=
  ⟨⟨fun _ _ _ e => by rw [upd_ne (ne_of_none e h)]; exact e, fun _ s _ => s⟩, fun _ _ s e => ⟨by rw [upd_ne (ne_of_none e h)]; exact e, s⟩⟩
theorem Cells.new {o : HO} (c : Cells K H S T) (h : H p = none) : Cells K (upd H p o) S T := ⟨c.ov, fun a d e => by
  have q := c.ok a d e
  refine CellOk.mv (mv_new h) (upd_ne fun z => ?_) q
  subst z
  exact q.there h⟩
theorem ov_put (h : ∀ a, (T a = S a ∧ T a ≠ some .hid) ∨ (S a = none ∧ T a = some .hid)) (nh : d ≠ .hid) : ∀ a, (put T p d a = put S p d a ∧ put T p d a ≠ some .hid) ∨ (put S p d a = none ∧ put T p d a = some .hid) := fun a => by
  by_cases z : a = p
  · subst z; rw [put_same, put_same]; exact .inl ⟨rfl, fun q => nh (Option.some.inj q)⟩
  · rw [put_ne z, put_ne z]; exact h a
/-- a new object, known by reference -/
theorem mv_newc {o : HO} (h : H p = none) : Mv S H (put S p d) (upd H p o) where
  keep := fun _ _ _ e => by rw [upd_ne (ne_of_none e h)]; exact e
  fresh := fun b s e => by
    rw [put_ne]
    · exact s
    · intro z; subst z; exact e h
  hid := fun b o s e => by
    have z := ne_of_none e h
    rw [upd_ne z, put_ne z]
    exact ⟨e, s⟩
theorem Cells.newc {o : HO} (c : Cells K H S T) (h : H p = none) (hd : CellOk K (upd H p o) (put T p d) p d) (nh : d ≠ .hid := by nofun) : Cells K (upd H p o) (put S p d) (put T p d) := ⟨ov_put c.ov nh, fun a e q => by
  by_cases z : a = p
  · subst z; rw [put_same] at q; cases q; exact hd
  · rw [put_ne z] at q
    have w := c.ok a e q
    exact CellOk.mv (mv_newc h) (upd_ne z) w⟩
/-- a new object, hidden -/
theorem Cells.newh {o : HO} (c : Cells K H S T) (h : H p = none) : Cells K (upd H p o) S (put T p .hid) := ⟨fun a => by
  by_cases z : a = p
  · subst z; exact .inr ⟨c.freeS h, put_same⟩
  · rw [put_ne z]; exact c.ov a, fun a e q => by
  by_cases z : a = p
  · subst z; rw [put_same] at q; cases q; exact ⟨o, upd_same⟩
  · rw [put_ne z] at q
    exact CellOk.mv (mv_newc h) (upd_ne z) (c.ok a e q)⟩
/-- the hidden object changes -/
theorem mk_hid {o : HO} (h : T p = some .hid) : Mk T H T (upd H p o) where
  keep := fun b _ s e => by
    rw [upd_ne]
    · exact e
    · intro z; subst z; rw [h] at s; cases s
  fresh := fun _ s _ => s
theorem Cells.hidw {o : HO} (c : Cells K H S T) (h : T p = some .hid) : Cells K (upd H p o) S T := ⟨c.ov, fun a e q => by
  by_cases z : a = p
  · subst z; rw [h] at q; cases q; exact ⟨o, upd_same⟩
  · exact CellOk.mk (mk_hid h) (upd_ne z) (c.ok a e q)⟩
theorem Mv.hidw {S1 : Sto} {H1 : Hp} {o : HO} (m : Mv S1 H1 T H) (n : H1 p = none) : Mv S1 H1 T (upd H p o) where
  keep := fun a u s e => by rw [upd_ne (ne_of_none e n)]; exact m.keep a u s e
  fresh := m.fresh
  hid := fun a u s e => by
    rw [upd_ne (ne_of_none e n)]
    exact m.hid a u s e
/-- the hidden object shows -/
theorem mk_show (h : T p = some .hid) : Mk T H (VS.del T p) H := ⟨fun _ _ _ h => h, fun b s _ => by
  unfold VS.del
  split
  · rfl
  · exact s⟩
theorem Cells.unhid (c : Cells K H S T) (h : T p = some .hid) : Cells K H S (VS.del T p) := ⟨fun a => by
  by_cases z : a = p
  · subst z
    rw [del_same]
    rcases c.ov a with ⟨_, e⟩ | ⟨e, _⟩
    · exact absurd h e
    · exact .inl ⟨e.symm, by simp⟩
  · rw [del_ne z]; exact c.ov a, fun a d q => by
  by_cases z : a = p
  · subst z; rw [del_same] at q; cases q
  · rw [del_ne z] at q
    exact CellOk.mk (mk_show h) rfl (c.ok a d q)⟩
/-- an object that is known by reference changes -/
theorem mv_wr {o : HO} {e : D} (h : S p = some e) (ne : e ≠ .hid := by nofun) : Mv S H (put S p d) (upd H p o) where
  keep := fun b _ s e => by
    rw [upd_ne]
    · exact e
    · intro z; subst z; rw [h] at s; cases s
  fresh := fun b s _ => by
    rw [put_ne]
    · exact s
    · intro z; subst z; rw [h] at s; cases s
  hid := fun b o s e => by
    have z : b ≠ p := by
      intro z; subst z; rw [h] at s; cases s; exact ne rfl
    rw [upd_ne z, put_ne z]
    exact ⟨e, s⟩
theorem Cells.wr {o : HO} {e : D} (c : Cells K H S T) (h : T p = some e) (hd : CellOk K (upd H p o) (put T p d) p d) (ne : e ≠ .hid := by nofun) (nh : d ≠ .hid := by nofun) : Cells K (upd H p o) (put S p d) (put T p d) := ⟨ov_put c.ov nh, fun a e q => by
  by_cases z : a = p
  · subst z; rw [put_same] at q; cases q; exact hd
  · rw [put_ne z] at q
    exact CellOk.mv (mv_wr h ne) (upd_ne z) (c.ok a e q)⟩
/-- from now on known by value -/
theorem mv_del (h : S p ≠ some .hid) : Mv S H (del S p) H := ⟨⟨fun _ _ _ h => h, fun b s _ => by
  unfold del
  split
  · rfl
  · exact s⟩, fun b o s e => ⟨e, by rw [del_ne]; exact s; intro z; subst z; exact h s⟩⟩
theorem Cells.del (c : Cells K H S T) (h : T p ≠ some .hid) : Cells K H (del S p) (del T p) := ⟨fun a => by
  by_cases z : a = p
  · subst z; rw [del_same, del_same]; exact .inl ⟨rfl, by simp⟩
  · rw [del_ne z, del_ne z]; exact c.ov a, fun a d q => by
  by_cases z : a = p
  · subst z; rw [del_same] at q; cases q
  · rw [del_ne z] at q
    exact CellOk.mv (mv_del h) rfl (c.ok a d q)⟩
/-- what can't be known by value -/
inductive NoF : D → Prop
  | hid : NoF .hid
  | str (q : Str) : NoF (.str q)
theorem NoF.ne {d : D} (n : ¬ NoF d) : d ≠ .hid := fun e => n (by rw [e]; exact .hid)
theorem Cells.rep (c : Cells K H S T) (h : T p = some d) (n : ¬ NoF d) : Rep K H (VS.del T p) (.ref p) d := by
  have ne : T p ≠ some .hid := by rw [h]; intro e; cases e; exact n .hid
  have q := c.ok p d h
  cases d with
  | lst ds => obtain ⟨xs, h1, r⟩ := q; exact .lst del_same h1 (r.mv (mv_del ne))
  | dK ds => obtain ⟨xs, h1, r⟩ := q; exact .dK del_same (.inl h1) (r.mv (mv_del ne))
  | ins C ds => obtain ⟨dx, fs, h1, r⟩ := q; exact .ins del_same h1 (r.mv (mv_del ne))
  | hid => exact absurd h ne
  | str x => exact absurd (NoF.str x) n
  | _ => exact q.elim
end
/-! ### where one stands -/
abbrev Rho := List (Option D)
/-- the written part; what is wanted of an exception, by the heap and by value (at the slots as they then are) -/
structure Ctx where
  K : PySem.W.Frag
  E : St → XK
  Y : Addr → List (Str × D) → Rho → Sto → Prop
def XRep (K : PySem.W.Frag) (H : Hp) (S : Sto) (d : Option Addr) (fs : List (Str × D)) : Prop :=
  ∃ dd fv, d = some dd ∧ S dd = none ∧ H dd = some (.xd fv) ∧ RepF K H S fv fs
/-- the slots hold what ρ says -/
structure Sl (K : PySem.W.Frag) (H : Hp) (T : Sto) (σ : St) (ρ : Rho) : Prop where
  slots : ∀ (i : Nat) (d : D), ρ[i]? = some (some d) → ∃ v, σ[i]? = some (some v) ∧ Rep K H T v d
  len : σ.length = ρ.length
structure In (c : Ctx) (σ : St) (H : Hp) (ρ : Rho) (S T : Sto) : Prop where
  cells : Cells c.K H S T
  slots : ∀ (i : Nat) (d : D), ρ[i]? = some (some d) → ∃ v, σ[i]? = some (some v) ∧ Rep c.K H T v d
  len : σ.length = ρ.length
  exc : ∀ (σ' : St) (ρ' : Rho) (C : Addr) (d : Option Addr) (fs : List (Str × D)) (S' T' : Sto) (H' : Hp), Mv T H T' H' → Cells c.K H' S' T' → Sl c.K H' T' σ' ρ' → XRep c.K H' T' d fs → c.Y C fs ρ' S' → c.E σ' (.ref C) d H'
section
variable {c : Ctx} {σ : St} {H H' : Hp} {ρ : Rho} {S S' T T' : Sto}
theorem In.mv (I : In c σ H ρ S T) (m : Mv T H T' H') (cl : Cells c.K H' S' T') : In c σ H' ρ S' T' :=
  ⟨cl, fun i d e => let ⟨v, h, r⟩ := I.slots i d e; ⟨v, h, r.mv m⟩, I.len, fun σ2 ρ2 C d fs S2 T2 H2 m2 c2 sl x y => I.exc σ2 ρ2 C d fs S2 T2 H2 (m.trans m2) c2 sl x y⟩
theorem In.sl (I : In c σ H ρ S T) : Sl c.K H T σ ρ := ⟨I.slots, I.len⟩
theorem In.set (I : In c σ H ρ S T) {v : V} {d : D} (i : Nat) (r : Rep c.K H T v d) : In c (σ.set i (some v)) H (ρ.set i (some d)) S T := by
  refine ⟨I.cells, fun j e q => ?_, by simp [I.len], I.exc⟩
  by_cases z : j = i
  · subst z
    have hj : j < ρ.length := by
      cases Nat.lt_or_ge j ρ.length with
      | inl h => exact h
      | inr h => rw [List.getElem?_eq_none (by simpa using h)] at q; cases q
    rw [List.getElem?_set_self hj] at q
    cases q
    exact ⟨v, List.getElem?_set_self (by rw [I.len]; exact hj), r⟩
  · rw [List.getElem?_set_ne (Ne.symm z)] at q
    obtain ⟨u, h1, h2⟩ := I.slots j e q
    exact ⟨u, by rw [List.getElem?_set_ne (Ne.symm z)]; exact h1, h2⟩
/-- another word for a slot's value -/
theorem In.reword (I : In c σ H ρ S T) {d d' : D} {i : Nat} (e : ρ[i]? = some (some d)) (h : ∀ v, Rep c.K H T v d → Rep c.K H T v d') : In c σ H (ρ.set i (some d')) S T := by
  refine ⟨I.cells, fun j e' q => ?_, by simp [I.len], I.exc⟩
  by_cases z : j = i
  · subst z
    have hj : j < ρ.length := (List.getElem?_eq_some_iff.mp e).1
    rw [List.getElem?_set_self hj] at q
    cases q
    obtain ⟨u, h1, h2⟩ := I.slots j d e
    exact ⟨u, h1, h u h2⟩
  · rw [List.getElem?_set_ne (Ne.symm z)] at q
    exact I.slots j e' q
end
/-! ### readings by value -/
def VE (c : Ctx) (te : TE) (ρ : Rho) (S : Sto) (F : D → Sto → Prop) : Prop := ∀ T σ H, In c σ H ρ S T → ∀ Q : VK,
  (∀ v d S' T' H', Mv T H T' H' → Cells c.K H' S' T' → Rep c.K H' T' v d → F d S' → Q v H') → te σ H Q
def VT (c : Ctx) (tt : TT) (ρ : Rho) (S : Sto) (F : Bool → Sto → Prop) : Prop := ∀ T σ H, In c σ H ρ S T → ∀ Q : Bool → Hp → Prop,
  (∀ b S' T' H', Mv T H T' H' → Cells c.K H' S' T' → F b S' → Q b H') → tt σ H Q
def VA (c : Ctx) (ta : TA) (ρ : Rho) (S : Sto) (F : List D → Sto → Prop) : Prop := ∀ T σ H, In c σ H ρ S T → ∀ Q : List V → Hp → Prop,
  (∀ vs ds S' T' H', Mv T H T' H' → Cells c.K H' S' T' → RepL c.K H' T' vs ds → F ds S' → Q vs H') → ta σ H Q
def VO (c : Ctx) (to : TO) (ρ : Rho) (S : Sto) (F : Option Int → Sto → Prop) : Prop := ∀ T σ H, In c σ H ρ S T → ∀ Q : Option Int → Hp → Prop,
  (∀ o S' T' H', Mv T H T' H' → Cells c.K H' S' T' → F o S' → Q o H') → to σ H Q
def RU (c : Ctx) (r : V → Hp → VK → Prop) (x : D) (S : Sto) (F : D → Sto → Prop) : Prop := ∀ T u H, Cells c.K H S T → Rep c.K H T u x → ∀ Q : VK,
  (∀ v d S' T' H', Mv T H T' H' → Cells c.K H' S' T' → Rep c.K H' T' v d → F d S' → Q v H') → r u H Q
def RV (c : Ctx) (r : R2) (x y : D) (S : Sto) (F : D → Sto → Prop) : Prop := ∀ T u w H, Cells c.K H S T → Rep c.K H T u x → Rep c.K H T w y → ∀ Q : VK,
  (∀ v d S' T' H', Mv T H T' H' → Cells c.K H' S' T' → Rep c.K H' T' v d → F d S' → Q v H') → r u w H Q
def RC (c : Ctx) (r : List V → Hp → VK → Prop) (ds : List D) (S : Sto) (F : D → Sto → Prop) : Prop := ∀ T us H, Cells c.K H S T → RepL c.K H T us ds → ∀ Q : VK,
  (∀ v d S' T' H', Mv T H T' H' → Cells c.K H' S' T' → Rep c.K H' T' v d → F d S' → Q v H') → r us H Q
def RM (c : Ctx) (r : V → List V → Hp → VK → Prop) (x : D) (ds : List D) (S : Sto) (F : D → Sto → Prop) : Prop := ∀ T u us H, Cells c.K H S T → Rep c.K H T u x → RepL c.K H T us ds → ∀ Q : VK,
  (∀ v d S' T' H', Mv T H T' H' → Cells c.K H' S' T' → Rep c.K H' T' v d → F d S' → Q v H') → r u us H Q
def VG (c : Ctx) (g : TG) (d : D) (ρ : Rho) (S : Sto) (F : Rho → Sto → Prop) : Prop := ∀ T v σ H, In c σ H ρ S T → Rep c.K H T v d → ∀ Q : St → Hp → Prop,
  (∀ σ' ρ' S' T' H', Mv T H T' H' → In c σ' H' ρ' S' T' → F ρ' S' → Q σ' H') → g v σ H Q
/-- what is wanted behind a statement -/
structure Po where
  nx : Rho → Sto → Prop
  rt : D → Sto → Prop
  bk : Rho → Sto → Prop
  ct : Rho → Sto → Prop
structure Bh (c : Ctx) (P : Po) (D : Ends) (T : Sto) (H : Hp) : Prop where
  nx : ∀ σ' ρ' S' T' H', Mv T H T' H' → In c σ' H' ρ' S' T' → P.nx ρ' S' → D.nx σ' H'
  rt : ∀ v d S' T' H', Mv T H T' H' → Cells c.K H' S' T' → Rep c.K H' T' v d → P.rt d S' → D.rt v H'
  bk : ∀ σ' ρ' S' T' H', Mv T H T' H' → In c σ' H' ρ' S' T' → P.bk ρ' S' → D.bk σ' H'
  ct : ∀ σ' ρ' S' T' H', Mv T H T' H' → In c σ' H' ρ' S' T' → P.ct ρ' S' → D.ct σ' H'
theorem Bh.mv {c : Ctx} {P : Po} {D : Ends} {T T' : Sto} {H H' : Hp} (b : Bh c P D T H) (m : Mv T H T' H') : Bh c P D T' H' :=
  ⟨fun σ ρ S2 T2 H2 m2 => b.nx σ ρ S2 T2 H2 (m.trans m2), fun v d S2 T2 H2 m2 => b.rt v d S2 T2 H2 (m.trans m2), fun σ ρ S2 T2 H2 m2 => b.bk σ ρ S2 T2 H2 (m.trans m2), fun σ ρ S2 T2 H2 m2 => b.ct σ ρ S2 T2 H2 (m.trans m2)⟩
def VX (c : Ctx) (t : TS) (ρ : Rho) (S : Sto) (P : Po) : Prop := ∀ T σ H, In c σ H ρ S T → ∀ D : Ends, Bh c P D T H → t D σ H
/-- an iterator: its values one by one -/
def Yl (K : PySem.W.Frag) (J : It) (ds : List D) (T : Sto) (H : Hp) : Prop := ∃ G Y, Walk J ds.length G Y ∧ (∀ T1 H1, Mv T H T1 H1 → G H1) ∧
  ∀ (i : Nat) (d : D) (S1 T1 : Sto) (H1 H2 : Hp) (x : V), ds[i]? = some d → Mv T H T1 H1 → Cells K H1 S1 T1 → Y i H1 x H2 → Mv T1 H1 T1 H2 ∧ Cells K H2 S1 T1 ∧ Rep K H2 T1 x d
def VI (c : Ctx) (wi : TI) (ρ : Rho) (S : Sto) (F : List D → Sto → Prop) : Prop := ∀ T σ H, In c σ H ρ S T → ∀ R : It → Hp → Prop,
  (∀ J ds S' T' H', Mv T H T' H' → Cells c.K H' S' T' → Yl c.K J ds T' H' → F ds S' → R J H') → wi σ H R
end VS
namespace VS
open PySem L2
/-! ### the readings that bear no name in the layer -/
abbrev CR1 := List V → Hp → VK → Prop
abbrev MR1 := V → List V → Hp → VK → Prop
def rAddStr : R2 := fun x y H Q => ∃ i j, x = .str i ∧ y = .str j ∧ i.length + j.length ≤ sizeLine ∧ Q (.str (i ++ j)) H
def rLtStr : R2 := fun x y H Q => ∃ i j, x = .str i ∧ y = .str j ∧ Q (.bl (decide (i.cps.toList < j.cps.toList))) H
def rLeStr : R2 := fun x y H Q => ∃ i j, x = .str i ∧ y = .str j ∧ Q (.bl (!decide (j.cps.toList < i.cps.toList))) H
def rInStr : R2 := fun x y H Q => ∃ i j, x = .str i ∧ y = .str j ∧ Q (.bl (!(Builtin.Str.occurrences j i 0 j.length 1).isEmpty)) H
def rNotInStr : R2 := fun x y H Q => ∃ i j, x = .str i ∧ y = .str j ∧ Q (.bl (!(!(Builtin.Str.occurrences j i 0 j.length 1).isEmpty))) H
def rLen (K : PySem.W.Frag) : CR1 := fun xs H Q => ∃ x n, xs = [x] ∧ LenV K x H n ∧ Q (.int n) H
def rAbs : CR1 := fun xs H Q => ∃ i, xs = [.int i] ∧ Q (.int (if i < 0 then -i else i)) H
def rMax2 : CR1 := fun xs H Q => ∃ i j, xs = [.int i, .int j] ∧ Q (.int (if j > i then j else i)) H
def rMin2 : CR1 := fun xs H Q => ∃ i j, xs = [.int i, .int j] ∧ Q (.int (if j < i then j else i)) H
def rInt1 : CR1 := fun xs H Q => (∃ i, xs = [.int i] ∧ Q (.int i) H) ∨ ∃ k, xs = [.bl k] ∧ Q (.int (if k then 1 else 0)) H
def rStrInt : CR1 := fun xs H Q => ∃ i, xs = [.int i] ∧ i.natAbs.log2 < 1920 ∧ Q (.str (toString i)) H
def rOrd : CR1 := fun xs H Q => ∃ x, xs = [.str x] ∧ x.length = 1 ∧ Q (.int (x.cps.getD 0 0 : Nat)) H
def rIntStr : CR1 := fun xs H Q => ∃ a n, xs = [.str a] ∧ PySem.intText? a = some n ∧ a.length ≤ 640 ∧ Q (.int n) H
def rListOf (K : PySem.W.Frag) : CR1 := fun xs H Q => ∃ p ys, xs = [.ref p] ∧ (SqL K H p ys ∨ SqT K H p ys) ∧ ∀ l, H l = none → Q (.ref l) (upd H l (.lst ys))
def rTupleOf (K : PySem.W.Frag) : CR1 := fun xs H Q => ∃ p ys, xs = [.ref p] ∧ ((SqL K H p ys ∧ ∀ l, H l = none → Q (.ref l) (upd H l (.tup ys))) ∨ (SqT K H p ys ∧ Q (.ref p) H))
def rJoin (K : PySem.W.Frag) : MR1 := fun x xs H Q => ∃ a p, ∃ ys : List Str, x = .str a ∧ xs = [.ref p] ∧ (SqL K H p (ys.map V.str) ∨ SqT K H p (ys.map V.str)) ∧ (ys.map (·.length)).sum + ys.length * a.length ≤ 16777216 ∧ Q (.str (Txt.join a ys)) H
def rSplit : MR1 := fun x xs H Q => ∃ a b, x = .str a ∧ xs = [.str b] ∧ (b.length == 0) = false ∧ a.length + 2 ≤ sizeLine ∧ rNewStrs (Txt.split a b) H Q
def rIsNo : R2 := fun x y H Q => y = .non ∧ Q (.bl (decide (x = .non))) H
def rNotNo : R2 := fun x y H Q => y = .non ∧ Q (.bl (!decide (x = .non))) H
section
variable {X : Cx}
theorem op_addS : OpR X (binaryOp .Add) rAddStr := op_add_str
theorem op_inStr : OpR X (compareOp .In) rInStr := op_in_str
theorem op_isNo : OpR X (compareOp .Is) rIsNo := op_isN
theorem op_notNo : OpR X (compareOp .IsNot) rNotNo := op_notN
theorem c_len : CallR X (.builtin "len") (rLen X.K) := call_len
theorem c_max2 (hc : X.calm = true) : CallR X (.builtin "max") rMax2 := call_max2 hc
theorem c_min2 (hc : X.calm = true) : CallR X (.builtin "min") rMin2 := call_min2 hc
theorem c_int1 : CallR X (.type "int") rInt1 := call_int1
theorem c_strInt : CallR X (.type "str") rStrInt := call_str_int
theorem c_intStr : CallR X (.type "int") rIntStr := call_int_str
theorem c_list : CallR X (.type "list") (rListOf X.K) := call_list_of
theorem c_tuple : CallR X (.type "tuple") (rTupleOf X.K) := call_tuple_of
theorem m_join : MtR X "str.join" (rJoin X.K) := mt_join
theorem m_split : MtR X "str.split" rSplit := mt_split
end
section
variable {c : Ctx} {ρ : Rho} {S : Sto} {F : D → Sto → Prop} {d : D}
/-! ### expressions -/
theorem ve_var {i : Nat} (h : ρ[i]? = some (some d)) (q : F d S) : VE c (tVar i) ρ S F := fun T σ H I Q k =>
  let ⟨v, e, r⟩ := I.slots i d h
  ⟨v, e, k v d S T H Mv.refl I.cells r q⟩
theorem ve_int {i : Int} (q : F (.int i) S) : VE c (tC (.int i)) ρ S F := fun T σ H I Q k => k _ _ S T H Mv.refl I.cells (.int i) q
theorem ve_bl {b : Bool} (q : F (.bl b) S) : VE c (tC (.bl b)) ρ S F := fun T σ H I Q k => k _ _ S T H Mv.refl I.cells (.bl b) q
theorem ve_str {x : Str} (q : F (.str x) S) : VE c (tC (.str x)) ρ S F := fun T σ H I Q k => k _ _ S T H Mv.refl I.cells (.str x) q
theorem ve_non (q : F .non S) : VE c (tC .non) ρ S F := fun T σ H I Q k => k _ _ S T H Mv.refl I.cells .non q
theorem ve_ty {n : String} (q : F (.ty n) S) : VE c (tC (.ty n)) ρ S F := fun T σ H I Q k => k _ _ S T H Mv.refl I.cells (.ty n) q
theorem ve_ref {a : Addr} (q : F (.ref a) S) : VE c (tC (.ref a)) ρ S F := fun T σ H I Q k => k _ _ S T H Mv.refl I.cells (.ref a) q
/-- a written thing that is a value at every heap -/
theorem ve_wr {v : V} (h : ∀ H S, Rep c.K H S v d) (q : F d S) : VE c (tC v) ρ S F := fun T σ H I Q k => k _ _ S T H Mv.refl I.cells (h H T) q
theorem ve_op {r : R2} {ta tb : TE} (h : VE c ta ρ S fun x S1 => VE c tb ρ S1 fun y S2 => RV c r x y S2 F) : VE c (tOp r ta tb) ρ S F := fun T σ H I Q k =>
  h T σ H I _ fun vx x S1 T1 H1 m1 c1 r1 h1 => h1 T1 σ H1 (I.mv m1 c1) _ fun vy y S2 T2 H2 m2 c2 r2 h2 => h2 T2 vx vy H2 c2 (r1.mv m2) r2 Q fun v d S3 T3 H3 m3 c3 r3 q => k v d S3 T3 H3 (m1.trans (m2.trans m3)) c3 r3 q
theorem ve_un {r : V → Hp → VK → Prop} {ta : TE} (h : VE c ta ρ S fun x S1 => RU c r x S1 F) : VE c (tUn r ta) ρ S F := fun T σ H I Q k =>
  h T σ H I _ fun vx x S1 T1 H1 m1 c1 r1 h1 => h1 T1 vx H1 c1 r1 Q fun v d S3 T3 H3 m3 c3 r3 q => k v d S3 T3 H3 (m1.trans m3) c3 r3 q
theorem ve_cb {r : CR1} {t : TA} (h : VA c t ρ S fun ds S1 => RC c r ds S1 F) : VE c (tCB r t) ρ S F := fun T σ H I Q k =>
  h T σ H I _ fun us ds S1 T1 H1 m1 c1 r1 h1 => h1 T1 us H1 c1 r1 Q fun v d S3 T3 H3 m3 c3 r3 q => k v d S3 T3 H3 (m1.trans m3) c3 r3 q
theorem va_nil {F : List D → Sto → Prop} (q : F [] S) : VA c tNil ρ S F := fun T σ H I Q k => k _ _ S T H Mv.refl I.cells .nil q
theorem va_cons {F : List D → Sto → Prop} {ta : TE} {t : TA} (h : VE c ta ρ S fun x S1 => VA c t ρ S1 fun xs S2 => F (x :: xs) S2) : VA c (tCons ta t) ρ S F := fun T σ H I Q k =>
  h T σ H I _ fun vx x S1 T1 H1 m1 c1 r1 h1 => h1 T1 σ H1 (I.mv m1 c1) _ fun vs ds S2 T2 H2 m2 c2 r2 h2 => k _ _ S2 T2 H2 (m1.trans m2) c2 (.cons (r1.mv m2) r2) h2
theorem ve_tup {t : TA} (h : VA c t ρ S fun ds S1 => ds.length ≤ sizeLine ∧ F (.tup ds) S1) : VE c (tTup t) ρ S F := fun T σ H I Q k =>
  h T σ H I _ fun us ds S1 T1 H1 m1 c1 r1 ⟨hl, q⟩ => ⟨by rw [r1.length]; exact hl, fun p hp => k _ _ S1 T1 _ (m1.trans (mv_new hp)) (c1.new hp) (.tup (c1.free hp) upd_same (r1.mv (mv_new hp))) q⟩
/-- a list, by value; by reference -/
theorem ve_lst {t : TA} (h : VA c t ρ S fun ds S1 => ds.length ≤ sizeLine ∧ F (.lst ds) S1) : VE c (tLst t) ρ S F := fun T σ H I Q k =>
  h T σ H I _ fun us ds S1 T1 H1 m1 c1 r1 ⟨hl, q⟩ => ⟨by rw [r1.length]; exact hl, fun p hp => k _ _ S1 T1 _ (m1.trans (mv_new hp)) (c1.new hp) (.lst (c1.free hp) upd_same (r1.mv (mv_new hp))) q⟩
theorem ve_lstc {t : TA} (h : VA c t ρ S fun ds S1 => ds.length ≤ sizeLine ∧ ∀ p, S1 p = none → F (.ref p) (put S1 p (.lst ds))) : VE c (tLst t) ρ S F := fun T σ H I Q k =>
  h T σ H I _ fun us ds S1 T1 H1 m1 c1 r1 ⟨hl, q⟩ => ⟨by rw [r1.length]; exact hl, fun p hp => k _ _ _ _ _ (m1.trans (mv_newc hp)) (c1.newc hp (cell_l upd_same (r1.mv (mv_newc hp)))) (.ref p) (q p (c1.freeS hp))⟩
theorem ve_if {t : TT} {ta tb : TE} (h : VT c t ρ S fun b S1 => (b = true → VE c ta ρ S1 F) ∧ (b = false → VE c tb ρ S1 F)) : VE c (tIf t ta tb) ρ S F := fun T σ H I Q k =>
  h T σ H I _ fun b S1 T1 H1 m1 c1 ⟨h1, h2⟩ => by
    cases b with
    | true => exact iteT (h1 rfl T1 σ H1 (I.mv m1 c1) Q fun v d S3 T3 H3 m3 => k v d S3 T3 H3 (m1.trans m3))
    | false => exact iteF (h2 rfl T1 σ H1 (I.mv m1 c1) Q fun v d S3 T3 H3 m3 => k v d S3 T3 H3 (m1.trans m3))
theorem ve_andV {ta tb : TE} (h : VE c ta ρ S fun x S1 => ∃ b, x = .bl b ∧ (b = true → VE c tb ρ S1 F) ∧ (b = false → F (.bl false) S1)) : VE c (tAndV ta tb) ρ S F := fun T σ H I Q k =>
  h T σ H I _ fun vx x S1 T1 H1 m1 c1 r1 ⟨b, e, h1, h2⟩ => by
    subst e
    cases r1
    refine ⟨b, rfl, ?_⟩
    cases b with
    | true => exact iteT (h1 rfl T1 σ H1 (I.mv m1 c1) Q fun v d S3 T3 H3 m3 => k v d S3 T3 H3 (m1.trans m3))
    | false => exact iteF (k _ _ S1 T1 H1 m1 c1 (.bl false) (h2 rfl))
theorem ve_orV {ta tb : TE} (h : VE c ta ρ S fun x S1 => ∃ b, x = .bl b ∧ (b = false → VE c tb ρ S1 F) ∧ (b = true → F (.bl true) S1)) : VE c (tOrV ta tb) ρ S F := fun T σ H I Q k =>
  h T σ H I _ fun vx x S1 T1 H1 m1 c1 r1 ⟨b, e, h1, h2⟩ => by
    subst e
    cases r1
    refine ⟨b, rfl, ?_⟩
    cases b with
    | true => exact iteT (k _ _ S1 T1 H1 m1 c1 (.bl true) (h2 rfl))
    | false => exact iteF (h1 rfl T1 σ H1 (I.mv m1 c1) Q fun v d S3 T3 H3 m3 => k v d S3 T3 H3 (m1.trans m3))
theorem ve_notV {ta : TE} (h : VE c ta ρ S fun x S1 => ∃ b, x = .bl b ∧ F (.bl (!b)) S1) : VE c (tNotV ta) ρ S F := fun T σ H I Q k =>
  h T σ H I _ fun vx x S1 T1 H1 m1 c1 r1 ⟨b, e, h1⟩ => by
    subst e
    cases r1
    exact ⟨b, rfl, k _ _ S1 T1 H1 m1 c1 (.bl _) h1⟩
theorem ve_chain {r r' : R2} {ta tb tc : TE} (h : VE c ta ρ S fun x S1 => VE c tb ρ S1 fun y S2 => RV c r x y S2 fun z S3 => ∃ k, z = .bl k ∧ (k = true → VE c tc ρ S3 fun w S4 => RV c r' y w S4 F) ∧ (k = false → F (.bl false) S3)) : VE c (tChain r r' ta tb tc) ρ S F := fun T σ H I Q k =>
  h T σ H I _ fun vx x S1 T1 H1 m1 c1 r1 h1 => h1 T1 σ H1 (I.mv m1 c1) _ fun vy y S2 T2 H2 m2 c2 r2 h2 => h2 T2 vx vy H2 c2 (r1.mv m2) r2 _ fun v d S3 T3 H3 m3 c3 r3 ⟨b, e, q1, q2⟩ => by
    subst e
    cases r3
    refine ⟨b, rfl, ?_⟩
    cases b with
    | true => exact iteT (q1 rfl T3 σ H3 (I.mv (m1.trans (m2.trans m3)) c3) _ fun vw w S4 T4 H4 m4 c4 r4 h4 => h4 T4 vy vw H4 c4 (r2.mv (m3.trans m4)) r4 Q fun v d S5 T5 H5 m5 => k v d S5 T5 H5 (m1.trans (m2.trans (m3.trans (m4.trans m5)))))
    | false => exact iteF (k _ _ S3 T3 H3 (m1.trans (m2.trans m3)) c3 (.bl false) (q2 rfl))
/-! ### tests -/
variable {G : Bool → Sto → Prop}
theorem vt_test {t : TE} (h : VE c t ρ S fun x S1 => ∃ b, x = .bl b ∧ G b S1) : VT c (tTest t) ρ S G := fun T σ H I Q k =>
  h T σ H I _ fun vx x S1 T1 H1 m1 c1 r1 ⟨b, e, h1⟩ => by
    subst e
    cases r1
    exact ⟨b, rfl, k b S1 T1 H1 m1 c1 h1⟩
theorem vt_B {t : TE} (h : VE c t ρ S fun x S1 => ∃ b, x = .bl b ∧ G b S1) : VT c (tB t) ρ S G := vt_test h
theorem vt_and {t u : TT} (h : VT c t ρ S fun b S1 => (b = true → VT c u ρ S1 G) ∧ (b = false → G false S1)) : VT c (tAnd t u) ρ S G := fun T σ H I Q k =>
  h T σ H I _ fun b S1 T1 H1 m1 c1 ⟨h1, h2⟩ => by
    cases b with
    | true => exact iteT (h1 rfl T1 σ H1 (I.mv m1 c1) Q fun b S3 T3 H3 m3 => k b S3 T3 H3 (m1.trans m3))
    | false => exact iteF (k false S1 T1 H1 m1 c1 (h2 rfl))
theorem vt_or {t u : TT} (h : VT c t ρ S fun b S1 => (b = true → G true S1) ∧ (b = false → VT c u ρ S1 G)) : VT c (tOr t u) ρ S G := fun T σ H I Q k =>
  h T σ H I _ fun b S1 T1 H1 m1 c1 ⟨h1, h2⟩ => by
    cases b with
    | true => exact iteT (k true S1 T1 H1 m1 c1 (h1 rfl))
    | false => exact iteF (h2 rfl T1 σ H1 (I.mv m1 c1) Q fun b S3 T3 H3 m3 => k b S3 T3 H3 (m1.trans m3))
theorem vt_not {t : TT} (h : VT c t ρ S fun b S1 => G (!b) S1) : VT c (tNot t) ρ S G := fun T σ H I Q k => h T σ H I _ fun b S1 T1 H1 m1 c1 h1 => k _ S1 T1 H1 m1 c1 h1
theorem vt_yes (h : G true S) : VT c tYes ρ S G := fun T σ H I Q k => k true S T H Mv.refl I.cells h
/-! ### weaker ends -/
theorem VE.imp {F' : D → Sto → Prop} {te : TE} (h : VE c te ρ S F) (i : ∀ d S, F d S → F' d S) : VE c te ρ S F' := fun T σ H I Q k => h T σ H I Q fun v d S' T' H' m cl r q => k v d S' T' H' m cl r (i _ _ q)
theorem VT.imp {G' : Bool → Sto → Prop} {te : TT} (h : VT c te ρ S G) (i : ∀ d S, G d S → G' d S) : VT c te ρ S G' := fun T σ H I Q k => h T σ H I Q fun v S' T' H' m cl q => k v S' T' H' m cl (i _ _ q)
/-! ### what a list is to be read of -/
inductive IsL (S : Sto) : D → List D → Prop
  | v {ds : List D} : IsL S (.lst ds) ds
  | r {ds : List D} : IsL S (.rol ds) ds
  | c {l : Addr} {ds : List D} (h : S l = some (.lst ds)) : IsL S (.ref l) ds
theorem IsL.rd {K : PySem.W.Frag} {H : Hp} {T : Sto} {x : D} {ds : List D} {u : V} (h : IsL S x ds) (cl : Cells K H S T) (r : Rep K H T u x) : ∃ a xs, u = .ref a ∧ SqL K H a xs ∧ RepL K H T xs ds := by
  cases h with
  | v => obtain ⟨a, xs, e, s, h, r⟩ := r.seqL; exact ⟨a, xs, e, .of h, r⟩
  | r => obtain ⟨a, xs, e, h, r⟩ := r.seqR; exact ⟨a, xs, e, h _ _ Mv.refl, r⟩
  | c h => cases r; obtain ⟨xs, h1, r⟩ := cl.ok _ _ (cl.at h); exact ⟨_, xs, rfl, .of h1, r⟩
/-- a list that may be added to another one -/
inductive IsA (S : Sto) : D → List D → Prop
  | v {ds : List D} : IsA S (.lst ds) ds
  | c {l : Addr} {ds : List D} (h : S l = some (.lst ds)) : IsA S (.ref l) ds
theorem IsA.rd {K : PySem.W.Frag} {H : Hp} {T : Sto} {x : D} {ds : List D} {u : V} (h : IsA S x ds) (cl : Cells K H S T) (r : Rep K H T u x) : ∃ a xs, u = .ref a ∧ H a = some (.lst xs) ∧ RepL K H T xs ds := by
  cases h with
  | v => obtain ⟨a, xs, e, s, h, r⟩ := r.seqL; exact ⟨a, xs, e, h, r⟩
  | c h => cases r; obtain ⟨xs, h1, r⟩ := cl.ok _ _ (cl.at h); exact ⟨_, xs, rfl, h1, r⟩
inductive IsQ (S : Sto) : D → List D → Prop
  | l {x : D} {ds : List D} (h : IsL S x ds) : IsQ S x ds
  | t {ds : List D} : IsQ S (.tup ds) ds
theorem IsQ.rd {K : PySem.W.Frag} {H : Hp} {T : Sto} {x : D} {ds : List D} {u : V} (h : IsQ S x ds) (cl : Cells K H S T) (r : Rep K H T u x) : ∃ a xs, u = .ref a ∧ (SqL K H a xs ∨ SqT K H a xs) ∧ RepL K H T xs ds := by
  cases h with
  | l h => obtain ⟨a, xs, e, s, r⟩ := h.rd cl r; exact ⟨a, xs, e, .inl s, r⟩
  | t => obtain ⟨a, xs, e, s, r⟩ := r.seqT; exact ⟨a, xs, e, .inr s, r⟩
/-! ### operations by value -/
theorem rv_II {g : Int → Int → Int} {i j : Int} (q : F (.int (g i j)) S) : RV c (rI0 fun i j => .int (g i j)) (.int i) (.int j) S F := fun T u w H cl r1 r2 Q k => by
  cases r1; cases r2; exact ⟨i, j, rfl, rfl, k _ _ S T H Mv.refl cl (.int _) q⟩
theorem rv_IB {g : Int → Int → Bool} {i j : Int} (q : F (.bl (g i j)) S) : RV c (rI0 fun i j => .bl (g i j)) (.int i) (.int j) S F := fun T u w H cl r1 r2 Q k => by
  cases r1; cases r2; exact ⟨i, j, rfl, rfl, k _ _ S T H Mv.refl cl (.bl _) q⟩
theorem rv_IC {C : Int → Int → Prop} {g : Int → Int → Int} {i j : Int} (hc : C i j) (q : F (.int (g i j)) S) : RV c (rI C fun i j => .int (g i j)) (.int i) (.int j) S F := fun T u w H cl r1 r2 Q k => by
  cases r1; cases r2; exact ⟨i, j, rfl, rfl, hc, k _ _ S T H Mv.refl cl (.int _) q⟩
theorem ru_I {g : Int → Int} {i : Int} (q : F (.int (g i)) S) : RU c (rU fun i => .int (g i)) (.int i) S F := fun T u H cl r1 Q k => by
  cases r1; exact ⟨i, rfl, k _ _ S T H Mv.refl cl (.int _) q⟩
/-- == and != of ints, texts, truths, None -/
def sEq : D → D → Option Bool
  | .int i, .int j => some (decide (i = j))
  | .str i, .str j => some (decide (i = j))
  | .bl i, .bl j => some (decide (i = j))
  | .non, .non => some true
  | .non, .int _ => some false | .int _, .non => some false | .non, .bl _ => some false | .bl _, .non => some false
  | .non, .str _ => some false | .str _, .non => some false | .int _, .str _ => some false | .str _, .int _ => some false
  | .bl _, .str _ => some false | .str _, .bl _ => some false
  | _, _ => none
theorem sEq_ok {K : PySem.W.Frag} {H : Hp} {x y : D} {u w : V} {b : Bool} (h : sEq x y = some b) (r1 : Rep K H S u x) (r2 : Rep K H S w y) : scal u w = true ∧ decide (u = w) = b := by
  cases r1 <;> cases r2 <;> first | (cases h; done) | (cases h; refine ⟨rfl, ?_⟩; first | rfl | simp)
theorem rv_eq {x y : D} {b : Bool} (h : sEq x y = some b) (q : F (.bl b) S) : RV c rEq x y S F := fun T u w H cl r1 r2 Q k => by
  obtain ⟨h1, h2⟩ := sEq_ok h r1 r2
  exact ⟨h1, by rw [h2]; exact k _ _ S T H Mv.refl cl (.bl _) q⟩
theorem rv_ne {x y : D} {b : Bool} (h : sEq x y = some b) (q : F (.bl (!b)) S) : RV c rNe x y S F := fun T u w H cl r1 r2 Q k => by
  obtain ⟨h1, h2⟩ := sEq_ok h r1 r2
  exact ⟨h1, by rw [h2]; exact k _ _ S T H Mv.refl cl (.bl _) q⟩
def isNoD : D → Bool
  | .non => true
  | _ => false
theorem isNo_ok {K : PySem.W.Frag} {H : Hp} {x : D} {u : V} (r : Rep K H S u x) : decide (u = V.non) = isNoD x := by
  cases r <;> first | rfl | (show decide _ = false; simp)
theorem rv_isNo {x : D} (q : F (.bl (isNoD x)) S) : RV c rIsNo x .non S F := fun T u w H cl r1 r2 Q k => by
  cases r2; exact ⟨rfl, by rw [isNo_ok r1]; exact k _ _ S T H Mv.refl cl (.bl _) q⟩
theorem rv_notNo {x : D} (q : F (.bl (!isNoD x)) S) : RV c rNotNo x .non S F := fun T u w H cl r1 r2 Q k => by
  cases r2; exact ⟨rfl, by rw [isNo_ok r1]; exact k _ _ S T H Mv.refl cl (.bl _) q⟩
theorem RepL.at {K : PySem.W.Frag} {H : Hp} {xs : List V} {ds : List D} {i : Int} (r : RepL K H S xs ds) (h : atI ds i = some d) : ∃ v, atI xs i = some v ∧ Rep K H S v d := by
  unfold atI at h ⊢
  rw [r.length]
  cases e : ixN ds.length i with
  | none => rw [e] at h; cases h
  | some j => rw [e] at h; exact r.get h
theorem rv_ixL {x : D} {ds : List D} {i : Int} (h : IsL S x ds) (e : atI ds i = some d) (q : F d S) : RV c (rIxL c.K) x (.int i) S F := fun T u w H cl r1 r2 Q k => by
  cases r2
  obtain ⟨a, xs, rfl, s, r⟩ := h.rd cl r1
  obtain ⟨v, h1, h2⟩ := r.at e
  exact ⟨a, xs, i, v, rfl, rfl, s, h1, k _ _ S T H Mv.refl cl h2 q⟩
theorem rv_ixT {ds : List D} {i : Int} (e : atI ds i = some d) (q : F d S) : RV c (rIxT c.K) (.tup ds) (.int i) S F := fun T u w H cl r1 r2 Q k => by
  cases r2
  obtain ⟨a, xs, rfl, s, r⟩ := r1.seqT
  obtain ⟨v, h1, h2⟩ := r.at e
  exact ⟨a, xs, i, v, rfl, rfl, s, h1, k _ _ S T H Mv.refl cl h2 q⟩
theorem rv_ixS {z : Str} {i : Int} {n : Nat} (hz : z.length ≤ sizeLine) (e : atI z.cps.toList i = some n) (q : F (.str ⟨#[n]⟩) S) : RV c rIxS (.str z) (.int i) S F := fun T u w H cl r1 r2 Q k => by
  cases r1; cases r2; exact ⟨z, i, n, rfl, rfl, hz, e, k _ _ S T H Mv.refl cl (.str _) q⟩
theorem rv_addS {x y : Str} (h : x.length + y.length ≤ sizeLine) (q : F (.str (x ++ y)) S) : RV c rAddStr (.str x) (.str y) S F := fun T u w H cl r1 r2 Q k => by
  cases r1; cases r2; exact ⟨x, y, rfl, rfl, h, k _ _ S T H Mv.refl cl (.str _) q⟩
theorem rv_ltS {x y : Str} (q : F (.bl (decide (x.cps.toList < y.cps.toList))) S) : RV c rLtStr (.str x) (.str y) S F := fun T u w H cl r1 r2 Q k => by
  cases r1; cases r2; exact ⟨x, y, rfl, rfl, k _ _ S T H Mv.refl cl (.bl _) q⟩
theorem rv_leS {x y : Str} (q : F (.bl (!decide (y.cps.toList < x.cps.toList))) S) : RV c rLeStr (.str x) (.str y) S F := fun T u w H cl r1 r2 Q k => by
  cases r1; cases r2; exact ⟨x, y, rfl, rfl, k _ _ S T H Mv.refl cl (.bl _) q⟩
theorem found_one (x : Str) (n : Nat) : (!(Builtin.Str.occurrences x ⟨#[n]⟩ 0 x.length 1).isEmpty) = decide (n ∈ x.cps.toList) := StrLaws.found_one x n
theorem rv_inS {n : Nat} {y : Str} (q : F (.bl (decide (n ∈ y.cps.toList))) S) : RV c rInStr (.str ⟨#[n]⟩) (.str y) S F := fun T u w H cl r1 r2 Q k => by
  cases r1; cases r2; exact ⟨_, y, rfl, rfl, by rw [found_one]; exact k _ _ S T H Mv.refl cl (.bl _) q⟩
theorem rv_notInS {n : Nat} {y : Str} (q : F (.bl (!decide (n ∈ y.cps.toList))) S) : RV c rNotInStr (.str ⟨#[n]⟩) (.str y) S F := fun T u w H cl r1 r2 Q k => by
  cases r1; cases r2; exact ⟨_, y, rfl, rfl, by rw [found_one]; exact k _ _ S T H Mv.refl cl (.bl _) q⟩
theorem rv_cat {x y : D} {ds es : List D} (h1 : IsA S x ds) (h2 : IsA S y es) (hl : ds.length + es.length ≤ sizeLine) (q : F (.lst (ds ++ es)) S) : RV c rCat x y S F := fun T u w H cl r1 r2 Q k => by
  obtain ⟨a, xs, rfl, s, r⟩ := h1.rd cl r1
  obtain ⟨b, zs, rfl, s', r'⟩ := h2.rd cl r2
  exact ⟨a, b, xs, zs, rfl, rfl, s, s', by rw [r.length, r'.length]; exact hl, fun p hp => k _ _ S T _ (mv_new hp) (cl.new hp) (.lst (cl.free hp) upd_same ((r.append r').mv (mv_new hp))) q⟩
theorem rv_catc {x y : D} {ds es : List D} (h1 : IsA S x ds) (h2 : IsA S y es) (hl : ds.length + es.length ≤ sizeLine) (q : ∀ p, S p = none → F (.ref p) (put S p (.lst (ds ++ es)))) : RV c rCat x y S F := fun T u w H cl r1 r2 Q k => by
  obtain ⟨a, xs, rfl, s, r⟩ := h1.rd cl r1
  obtain ⟨b, zs, rfl, s', r'⟩ := h2.rd cl r2
  exact ⟨a, b, xs, zs, rfl, rfl, s, s', by rw [r.length, r'.length]; exact hl, fun p hp => k _ _ _ _ _ (mv_newc hp) (cl.newc hp (cell_l upd_same ((r.append r').mv (mv_newc hp)))) (.ref p) (q p (cl.freeS hp))⟩
/-- flat values, in a row -/
def flatD : D → Bool
  | .non => true | .bl _ => true | .int _ => true | .str _ => true | _ => false
def eqD : D → D → Bool
  | .non, .non => true
  | .bl a, .bl b => a == b
  | .bl a, .int b => (if a then 1 else 0) == b
  | .int a, .bl b => a == (if b then 1 else 0)
  | .int a, .int b => a == b
  | .str a, .str b => a == b
  | _, _ => false
def inD (x : D) (xs : List D) : Bool := xs.any fun y => eqD y x
theorem flat_ok {K : PySem.W.Frag} {H : Hp} {x : D} {u : V} (r : Rep K H S u x) : flatV u = flatD x := by cases r <;> rfl
theorem eq_ok {K : PySem.W.Frag} {H : Hp} {x y : D} {u w : V} (r : Rep K H S u x) (r' : Rep K H S w y) : eqV u w = eqD x y := by cases r <;> cases r' <;> rfl
theorem RepL.flat {K : PySem.W.Frag} {H : Hp} : ∀ {xs : List V} {ds : List D}, RepL K H S xs ds → xs.all flatV = ds.all flatD
  | _, _, .nil => rfl
  | _, _, .cons h t => by rw [List.all_cons, List.all_cons, flat_ok h, RepL.flat t]
theorem RepL.inV {K : PySem.W.Frag} {H : Hp} {x : D} {u : V} (r : Rep K H S u x) : ∀ {xs : List V} {ds : List D}, RepL K H S xs ds → L2.inV u xs = inD x ds
  | _, _, .nil => rfl
  | _, _, .cons h t => by
    have e := RepL.inV r t
    unfold L2.inV inD at *
    rw [List.any_cons, List.any_cons, eq_ok h r, e]
theorem rv_in {neg : Bool} {x y : D} {ds : List D} (h : IsQ S y ds) (h1 : flatD x = true) (h2 : ds.all flatD = true) (q : F (.bl (if neg then !inD x ds else inD x ds)) S) : RV c (rIn c.K neg) x y S F := fun T u w H cl r1 r2 Q k => by
  obtain ⟨a, xs, rfl, s, r⟩ := h.rd cl r2
  exact ⟨a, xs, rfl, s, by rw [flat_ok r1]; exact h1, by rw [r.flat]; exact h2, by rw [RepL.inV r1 r]; exact k _ _ S T H Mv.refl cl (.bl _) q⟩
/-! ### calls of built-ins -/
theorem rc_lenQ {x : D} {ds : List D} (h : IsQ S x ds) (q : F (.int ds.length) S) : RC c (rLen c.K) [x] S F := fun T us H cl r Q k => by
  cases r with
  | cons h1 t =>
    cases t
    obtain ⟨a, xs, rfl, s, r⟩ := h.rd cl h1
    refine ⟨_, ds.length, rfl, ?_, k _ _ S T H Mv.refl cl (.int _) q⟩
    rcases s with s | s
    · exact .inl ⟨xs, s, r.length.symm⟩
    · exact .inr ⟨xs, s, r.length.symm⟩
theorem rc_lenS {x : Str} (h : x.length ≤ sizeLine) (q : F (.int x.length) S) : RC c (rLen c.K) [.str x] S F := fun T us H cl r Q k => by
  cases r with
  | cons h1 t => cases t; cases h1; exact ⟨_, _, rfl, ⟨h, rfl⟩, k _ _ S T H Mv.refl cl (.int _) q⟩
theorem rc_abs {i : Int} (q : F (.int (if i < 0 then -i else i)) S) : RC c rAbs [.int i] S F := fun T us H cl r Q k => by
  cases r with
  | cons h1 t => cases t; cases h1; exact ⟨_, rfl, k _ _ S T H Mv.refl cl (.int _) q⟩
theorem rc_max2 {i j : Int} (q : F (.int (if j > i then j else i)) S) : RC c rMax2 [.int i, .int j] S F := fun T us H cl r Q k => by
  cases r with
  | cons h1 t => cases t with
    | cons h2 t => cases t; cases h1; cases h2; exact ⟨_, _, rfl, k _ _ S T H Mv.refl cl (.int _) q⟩
theorem rc_min2 {i j : Int} (q : F (.int (if j < i then j else i)) S) : RC c rMin2 [.int i, .int j] S F := fun T us H cl r Q k => by
  cases r with
  | cons h1 t => cases t with
    | cons h2 t => cases t; cases h1; cases h2; exact ⟨_, _, rfl, k _ _ S T H Mv.refl cl (.int _) q⟩
theorem rc_int {i : Int} (q : F (.int i) S) : RC c rInt1 [.int i] S F := fun T us H cl r Q k => by
  cases r with
  | cons h1 t => cases t; cases h1; exact .inl ⟨_, rfl, k _ _ S T H Mv.refl cl (.int _) q⟩
theorem rc_intB {b : Bool} (q : F (.int (if b then 1 else 0)) S) : RC c rInt1 [.bl b] S F := fun T us H cl r Q k => by
  cases r with
  | cons h1 t => cases t; cases h1; exact .inr ⟨_, rfl, k _ _ S T H Mv.refl cl (.int _) q⟩
theorem rc_strI {i : Int} (h : i.natAbs.log2 < 1920) (q : F (.str (toString i)) S) : RC c rStrInt [.int i] S F := fun T us H cl r Q k => by
  cases r with
  | cons h1 t => cases t; cases h1; exact ⟨_, rfl, h, k _ _ S T H Mv.refl cl (.str _) q⟩
theorem rc_ord {n : Nat} (q : F (.int n) S) : RC c rOrd [.str ⟨#[n]⟩] S F := fun T us H cl r Q k => by
  cases r with
  | cons h1 t => cases t; cases h1; exact ⟨_, rfl, rfl, k _ _ S T H Mv.refl cl (.int _) q⟩
theorem rc_intS {x : Str} {n : Int} (h : PySem.intText? x = some n) (hl : x.length ≤ 640) (q : F (.int n) S) : RC c rIntStr [.str x] S F := fun T us H cl r Q k => by
  cases r with
  | cons h1 t => cases t; cases h1; exact ⟨_, _, rfl, h, hl, k _ _ S T H Mv.refl cl (.int _) q⟩
theorem rc_list {x : D} {ds : List D} (h : IsQ S x ds) (q : F (.lst ds) S) : RC c (rListOf c.K) [x] S F := fun T us H cl r Q k => by
  cases r with
  | cons h1 t =>
    cases t
    obtain ⟨a, xs, rfl, s, r⟩ := h.rd cl h1
    exact ⟨a, xs, rfl, s, fun p hp => k _ _ S T _ (mv_new hp) (cl.new hp) (.lst (cl.free hp) upd_same (r.mv (mv_new hp))) q⟩
theorem rc_listc {x : D} {ds : List D} (h : IsQ S x ds) (q : ∀ p, S p = none → F (.ref p) (put S p (.lst ds))) : RC c (rListOf c.K) [x] S F := fun T us H cl r Q k => by
  cases r with
  | cons h1 t =>
    cases t
    obtain ⟨a, xs, rfl, s, r⟩ := h.rd cl h1
    exact ⟨a, xs, rfl, s, fun p hp => k _ _ _ _ _ (mv_newc hp) (cl.newc hp (cell_l upd_same (r.mv (mv_newc hp)))) (.ref p) (q p (cl.freeS hp))⟩
theorem rc_tupleL {x : D} {ds : List D} (h : IsL S x ds) (q : F (.tup ds) S) : RC c (rTupleOf c.K) [x] S F := fun T us H cl r Q k => by
  cases r with
  | cons h1 t =>
    cases t
    obtain ⟨a, xs, rfl, s, r⟩ := h.rd cl h1
    exact ⟨a, xs, rfl, .inl ⟨s, fun p hp => k _ _ S T _ (mv_new hp) (cl.new hp) (.tup (cl.free hp) upd_same (r.mv (mv_new hp))) q⟩⟩
theorem rc_all {bs : List Bool} {x : D} (h : IsL S x (bs.map D.bl)) (q : F (.bl (bs.all id)) S) : RC c (rAll c.K) [x] S F := fun T us H cl r Q k => by
  cases r with
  | cons h1 t =>
    cases t
    obtain ⟨a, xs, rfl, s, r⟩ := h.rd cl h1
    have e := r.bls
    subst e
    exact ⟨a, bs, rfl, s, k _ _ S T H Mv.refl cl (.bl _) q⟩
/-- isinstance by a built-in class -/
inductive TyS (S : Sto) : D → String → Prop
  | non : TyS S .non "NoneType" | bl (b : Bool) : TyS S (.bl b) "bool" | int (i : Int) : TyS S (.int i) "int" | str (x : Str) : TyS S (.str x) "str"
  | rol (ds : List D) : TyS S (.rol ds) "list" | lst (ds : List D) : TyS S (.lst ds) "list" | tup (ds : List D) : TyS S (.tup ds) "tuple" | dK (ds : List (Key × D)) : TyS S (.dK ds) "dict"
  | cl {l : Addr} {ds : List D} (h : S l = some (.lst ds)) : TyS S (.ref l) "list" | cd {l : Addr} {ds : List (Key × D)} (h : S l = some (.dK ds)) : TyS S (.ref l) "dict"
theorem TyS.ok {K : PySem.W.Frag} {H : Hp} {T : Sto} {x : D} {n : String} {u : V} (t : TyS S x n) (cl : Cells K H S T) (r : Rep K H T u x) : TyX K H u (.type n) := by
  cases t with
  | non => cases r; exact .base .non
  | bl => cases r; exact .base (.bl _)
  | int => cases r; exact .base (.int _)
  | str => cases r; exact .base (.str _)
  | rol =>
    cases r with
    | rol _ h _ => exact .base (.frz h)
    | rolK h _ => obtain ⟨o, its, n, h1, h2, _⟩ := h; exact .kList h1 h2
  | lst => cases r with | lst _ h _ => exact .base (.lst h)
  | tup =>
    cases r with
    | tup _ h _ => exact .base (.tup h)
    | tupK h _ => obtain ⟨o, its, n, h1, h2, _⟩ := h; exact .kTuple h1 h2
  | dK => cases r with | dK _ h _ => exact h.elim (fun h => .base (.dK h)) fun ⟨_, h⟩ => .fDict h
  | cl h => cases r; obtain ⟨xs, h1, _⟩ := cl.ok _ _ (cl.at h); exact .base (.lst h1)
  | cd h => cases r; obtain ⟨xs, h1, _⟩ := cl.ok _ _ (cl.at h); exact .base (.dK h1)
theorem rc_isi {x : D} {n N : String} {b : Bool} (t : TyS S x n) (h : kitB n N = some b) (q : F (.bl b) S) : RC c (rIsiZ c.K) [x, .ty N] S F := fun T us H cl r Q k => by
  cases r with
  | cons h1 r => cases r with
    | cons h2 r =>
      cases r
      cases h2
      exact ⟨_, _, _, _, b, rfl, .ty N, TyZ.x (t.ok cl h1), kit_ty h, k _ _ S T H Mv.refl cl (.bl _) q⟩
/-! ### methods of built-ins -/
theorem ve_m1 {r : MR1} {to te : TE} (h : VE c to ρ S fun x S1 => ∃ z, x = .str z ∧ VE c te ρ S1 fun y S2 => RM c r (.str z) [y] S2 F) : VE c (tM1 r to te) ρ S F := fun T σ H I Q k =>
  h T σ H I _ fun vx x S1 T1 H1 m1 c1 r1 ⟨z, e, h1⟩ => by
    subst e
    cases r1
    exact ⟨⟨z, rfl⟩, h1 T1 σ H1 (I.mv m1 c1) _ fun vy y S2 T2 H2 m2 c2 r2 h2 => h2 T2 _ _ H2 c2 (.str z) (.cons r2 .nil) Q fun v d S3 T3 H3 m3 c3 r3 q => k v d S3 T3 H3 (m1.trans (m2.trans m3)) c3 r3 q⟩
theorem ve_m0 {r : MR1} {to : TE} (h : VE c to ρ S fun x S1 => ∃ z, x = .str z ∧ RM c r (.str z) [] S1 F) : VE c (tM0 r to) ρ S F := fun T σ H I Q k =>
  h T σ H I _ fun vx x S1 T1 H1 m1 c1 r1 ⟨z, e, h1⟩ => by
    subst e
    cases r1
    exact ⟨⟨z, rfl⟩, h1 T1 _ _ H1 c1 (.str z) .nil Q fun v d S3 T3 H3 m3 c3 r3 q => k v d S3 T3 H3 (m1.trans m3) c3 r3 q⟩
theorem rm_join {a : Str} {x : D} {ys : List Str} (h : IsQ S x (ys.map D.str)) (hl : (ys.map (·.length)).sum + ys.length * a.length ≤ 16777216) (q : F (.str (Txt.join a ys)) S) : RM c (rJoin c.K) (.str a) [x] S F := fun T u us H cl r1 r2 Q k => by
  cases r1
  cases r2 with
  | cons h1 t =>
    cases t
    obtain ⟨p, xs, rfl, s, r⟩ := h.rd cl h1
    have e := r.strs
    subst e
    exact ⟨a, p, ys, rfl, rfl, s, hl, k _ _ S T H Mv.refl cl (.str _) q⟩
/-- a method of a list that is known by reference -/
theorem ve_bm {r : MR1} {to : TE} {t : TA} (h : VE c to ρ S fun x S1 => ∃ l ds, x = .ref l ∧ S1 l = some (.lst ds) ∧ VA c t ρ S1 fun es S2 => RM c r (.ref l) es S2 F) : VE c (tBM c.K "list" r to t) ρ S F := fun T σ H I Q k =>
  h T σ H I _ fun vx x S1 T1 H1 m1 c1 r1 ⟨l, ds, e, hl, h1⟩ => by
    subst e
    cases r1
    obtain ⟨xs, hx, _⟩ := c1.ok _ _ (c1.at hl)
    exact ⟨.inl ⟨rfl, xs, .of hx⟩, h1 T1 σ H1 (I.mv m1 c1) _ fun vs es S2 T2 H2 m2 c2 r2 h2 => h2 T2 _ vs H2 c2 (.ref l) r2 Q fun v d S3 T3 H3 m3 c3 r3 q => k v d S3 T3 H3 (m1.trans (m2.trans m3)) c3 r3 q⟩
theorem ve_bm0 {r : MR1} {to : TE} (h : VE c to ρ S fun x S1 => ∃ l ds, x = .ref l ∧ S1 l = some (.lst ds) ∧ RM c r (.ref l) [] S1 F) : VE c (tBM0 c.K "list" r to) ρ S F := fun T σ H I Q k =>
  h T σ H I _ fun vx x S1 T1 H1 m1 c1 r1 ⟨l, ds, e, hl, h1⟩ => by
    subst e
    cases r1
    obtain ⟨xs, hx, _⟩ := c1.ok _ _ (c1.at hl)
    exact ⟨.inl ⟨rfl, xs, .of hx⟩, h1 T1 _ _ H1 c1 (.ref l) .nil Q fun v d S3 T3 H3 m3 c3 r3 q => k v d S3 T3 H3 (m1.trans m3) c3 r3 q⟩
theorem rm_append {l : Addr} {ds : List D} {x : D} (h : S l = some (.lst ds)) (hl : ds.length < sizeLine) (q : F .non (put S l (.lst (ds ++ [x])))) : RM c rAppend (.ref l) [x] S F := fun T u us H cl r1 r2 Q k => by
  cases r1
  cases r2 with
  | cons h1 t =>
    cases t
    obtain ⟨xs, hx, r⟩ := cl.ok _ _ (cl.at h)
    exact ⟨l, xs, _, rfl, rfl, hx, by rw [r.length]; exact hl, k _ _ _ _ _ (mv_wr (cl.at h)) (cl.wr (cl.at h) (cell_l upd_same ((r.append (.cons h1 .nil)).mv (mv_wr (cl.at h))))) .non q⟩
/-! ### slices -/
theorem vo_none {F : Option Int → Sto → Prop} (q : F none S) : VO c tNoPart ρ S F := fun T σ H I Q k => k none S T H Mv.refl I.cells q
theorem vo_some {F : Option Int → Sto → Prop} {te : TE} (h : VE c te ρ S fun x S1 => ∃ i, x = .int i ∧ F (some i) S1) : VO c (tPart te) ρ S F := fun T σ H I Q k =>
  h T σ H I _ fun vx x S1 T1 H1 m1 c1 r1 ⟨i, e, q⟩ => by
    subst e
    cases r1
    exact ⟨i, rfl, k _ S1 T1 H1 m1 c1 q⟩
def RS (c : Ctx) (r : V → Option Int → Option Int → Hp → VK → Prop) (x : D) (lo hi : Option Int) (S : Sto) (F : D → Sto → Prop) : Prop := ∀ T u H, Cells c.K H S T → Rep c.K H T u x → ∀ Q : VK,
  (∀ v d S' T' H', Mv T H T' H' → Cells c.K H' S' T' → Rep c.K H' T' v d → F d S' → Q v H') → r u lo hi H Q
theorem ve_sl {r : V → Option Int → Option Int → Hp → VK → Prop} {te : TE} {tl th : TO} (h : VE c te ρ S fun x S1 => VO c tl ρ S1 fun lo S2 => VO c th ρ S2 fun hi S3 => RS c r x lo hi S3 F) : VE c (tSl r te tl th) ρ S F := fun T σ H I Q k =>
  h T σ H I _ fun vx x S1 T1 H1 m1 c1 r1 h1 => h1 T1 σ H1 (I.mv m1 c1) _ fun lo S2 T2 H2 m2 c2 h2 => h2 T2 σ H2 (I.mv (m1.trans m2) c2) _ fun hi S3 T3 H3 m3 c3 h3 => h3 T3 vx H3 c3 (r1.mv (m2.trans m3)) Q fun v d S4 T4 H4 m4 => k v d S4 T4 H4 (m1.trans (m2.trans (m3.trans m4)))
theorem rs_str {z : Str} {lo hi : Option Int} (hz : z.length ≤ sizeLine) (q : F (.str (cutS z lo hi)) S) : RS c rSlS (.str z) lo hi S F := fun T u H cl r Q k => by
  cases r; exact ⟨z, rfl, hz, k _ _ S T H Mv.refl cl (.str _) q⟩
def cutD (xs : List D) (lo hi : Option Int) : List D := (xs.drop (HT.sIx xs.length 0 lo)).take (HT.sIx xs.length xs.length hi - HT.sIx xs.length 0 lo)
theorem RepL.cut {K : PySem.W.Frag} {H : Hp} {xs : List V} {ds : List D} (r : RepL K H S xs ds) (lo hi : Option Int) : RepL K H S (cutV xs lo hi) (cutD ds lo hi) := by
  unfold cutV cutD
  rw [r.length]
  exact (r.drop _).take _
theorem rs_list {x : D} {ds : List D} {lo hi : Option Int} (h : IsL S x ds) (q : F (.lst (cutD ds lo hi)) S) : RS c (rSlL c.K) x lo hi S F := fun T u H cl r Q k => by
  obtain ⟨a, xs, rfl, s, r⟩ := h.rd cl r
  exact ⟨a, xs, rfl, s, fun p hp => k _ _ S T _ (mv_new hp) (cl.new hp) (.lst (cl.free hp) upd_same ((r.cut lo hi).mv (mv_new hp))) q⟩
/-! ### calls of defs -/
/-- a def's promise by value: from the arguments and what is known by reference to what is wanted of the value, of an exception -/
abbrev Pt := List D → Sto → (D → Sto → Prop) → (Addr → List (Str × D) → Sto → Prop) → Prop
def spOf (K : PySem.W.Frag) (p : Pt) : Sp := fun vs H Q E => ∃ ds S T F Y, RepL K H T vs ds ∧ Cells K H S T ∧ p ds S F Y ∧
  (∀ v d S' T' H', Mv T H T' H' → Cells K H' S' T' → Rep K H' T' v d → F d S' → Q v H') ∧
  (∀ (C : Addr) (x : Option Addr) (fs : List (Str × D)) (S' T' : Sto) (H' : Hp), Mv T H T' H' → Cells K H' S' T' → XRep K H' T' x fs → Y C fs S' → E (.ref C) x H')
abbrev noY : Addr → List (Str × D) → Sto → Prop := fun _ _ _ => False
/-! ### statements -/
variable {P : Po}
theorem vx_next {nx bk ct : Rho → Sto → Prop} {rt : D → Sto → Prop} (q : nx ρ S) : VX c tNext ρ S ⟨nx, rt, bk, ct⟩ := fun T σ H I D b => b.nx σ ρ S T H Mv.refl I q
theorem vx_break {nx bk ct : Rho → Sto → Prop} {rt : D → Sto → Prop} (q : bk ρ S) : VX c tBreak ρ S ⟨nx, rt, bk, ct⟩ := fun T σ H I D b => b.bk σ ρ S T H Mv.refl I q
theorem vx_cont {nx bk ct : Rho → Sto → Prop} {rt : D → Sto → Prop} (q : ct ρ S) : VX c tCont ρ S ⟨nx, rt, bk, ct⟩ := fun T σ H I D b => b.ct σ ρ S T H Mv.refl I q
theorem vx_seq {t u : TS} {nx bk ct : Rho → Sto → Prop} {rt : D → Sto → Prop} (h : VX c t ρ S ⟨fun ρ1 S1 => VX c u ρ1 S1 ⟨nx, rt, bk, ct⟩, rt, bk, ct⟩) : VX c (tSeq t u) ρ S ⟨nx, rt, bk, ct⟩ := fun T σ H I D b =>
  h T σ H I _ ⟨fun σ' ρ' S' T' H' m I' q => q T' σ' H' I' D (b.mv m), b.rt, b.bk, b.ct⟩
theorem VX.imp {t : TS} {P' : Po} (h : VX c t ρ S P) (n : ∀ ρ S, P.nx ρ S → P'.nx ρ S) (r : ∀ d S, P.rt d S → P'.rt d S) (bk : ∀ ρ S, P.bk ρ S → P'.bk ρ S) (ct : ∀ ρ S, P.ct ρ S → P'.ct ρ S) : VX c t ρ S P' := fun T σ H I D b =>
  h T σ H I D ⟨fun σ' ρ' S' T' H' m I' q => b.nx σ' ρ' S' T' H' m I' (n _ _ q), fun v d S' T' H' m cl rr q => b.rt v d S' T' H' m cl rr (r _ _ q), fun σ' ρ' S' T' H' m I' q => b.bk σ' ρ' S' T' H' m I' (bk _ _ q), fun σ' ρ' S' T' H' m I' q => b.ct σ' ρ' S' T' H' m I' (ct _ _ q)⟩
theorem vx_asg {te : TE} {g : TG} {nx bk ct : Rho → Sto → Prop} {rt : D → Sto → Prop} (h : VE c te ρ S fun x S1 => VG c g x ρ S1 nx) : VX c (tAsg te g) ρ S ⟨nx, rt, bk, ct⟩ := fun T σ H I D b =>
  h T σ H I _ fun v x S1 T1 H1 m1 c1 r1 h1 => h1 T1 v σ H1 (I.mv m1 c1) r1 _ fun σ' ρ' S' T' H' m' I' q => b.nx σ' ρ' S' T' H' (m1.trans m') I' q
theorem vx_drop {te : TE} {nx bk ct : Rho → Sto → Prop} {rt : D → Sto → Prop} (h : VE c te ρ S fun _ S1 => nx ρ S1) : VX c (tDrop te) ρ S ⟨nx, rt, bk, ct⟩ := fun T σ H I D b =>
  h T σ H I _ fun v x S1 T1 H1 m1 c1 r1 h1 => b.nx σ ρ S1 T1 H1 m1 (I.mv m1 c1) h1
theorem vx_ret {te : TE} {nx bk ct : Rho → Sto → Prop} {rt : D → Sto → Prop} (h : VE c te ρ S rt) : VX c (tRet te) ρ S ⟨nx, rt, bk, ct⟩ := fun T σ H I D b => h T σ H I _ fun v x S1 T1 H1 m1 c1 r1 h1 => b.rt v x S1 T1 H1 m1 c1 r1 h1
theorem vx_retN {nx bk ct : Rho → Sto → Prop} {rt : D → Sto → Prop} (h : rt .non S) : VX c tRetN ρ S ⟨nx, rt, bk, ct⟩ := fun T σ H I D b => b.rt _ _ S T H Mv.refl I.cells .non h
theorem vx_if {tc : TT} {t u : TS} (h : VT c tc ρ S fun b S1 => (b = true → VX c t ρ S1 P) ∧ (b = false → VX c u ρ S1 P)) : VX c (tIfS tc t u) ρ S P := fun T σ H I D bb =>
  h T σ H I _ fun b S1 T1 H1 m1 c1 ⟨h1, h2⟩ => by
    cases b with
    | true => exact iteT (h1 rfl T1 σ H1 (I.mv m1 c1) D (bb.mv m1))
    | false => exact iteF (h2 rfl T1 σ H1 (I.mv m1 c1) D (bb.mv m1))
theorem Cells.nohid {K : PySem.W.Frag} {H : Hp} {S T : Sto} {l : Addr} {d : D} (cl : Cells K H S T) (hl : S l = some d) (ne : ¬ NoF d) : T l ≠ some .hid := fun z => by
  rw [cl.at hl] at z
  cases z
  exact ne .hid
/-- a slot's object is from now on known by value -/
theorem vx_freeze {t : TS} (i : Nat) {l : Addr} (h : ρ[i]? = some (some (.ref l))) (hl : S l = some d) (k : VX c t (ρ.set i (some d)) (del S l) P) (ne : ¬ NoF d := by nofun) : VX c t ρ S P := fun T σ H I D b => by
  have nh := I.cells.nohid hl ne
  have J : In c σ H ρ (del S l) (del T l) := I.mv (mv_del nh) (I.cells.del nh)
  have I' : In c σ H (ρ.set i (some d)) (del S l) (del T l) := by
    refine J.reword h fun v r => ?_
    cases r
    exact I.cells.rep (I.cells.at hl) ne
  exact k _ σ H I' D (b.mv (mv_del nh))
theorem ve_freeze {te : TE} (h : VE c te ρ S fun x S1 => ∃ l d, x = .ref l ∧ S1 l = some d ∧ ¬ NoF d ∧ F d (del S1 l)) : VE c te ρ S F := fun T σ H I Q k =>
  h T σ H I Q fun v x S1 T1 H1 m1 c1 r1 ⟨l, d, e1, hl, ne, q⟩ => by
    subst e1
    cases r1
    have nh := c1.nohid hl ne
    exact k _ d _ _ H1 (m1.trans (mv_del nh)) (c1.del nh) (c1.rep (c1.at hl) ne) q
theorem vg_name {i : Nat} {F : Rho → Sto → Prop} (q : F (ρ.set i (some d)) S) : VG c (gName i) d ρ S F := fun T v σ H I r Q k => k _ _ S T H Mv.refl (I.set i r) q
/-- several targets -/
def VGs (c : Ctx) (g : TGs) (ds : List D) (ρ : Rho) (S : Sto) (F : Rho → Sto → Prop) : Prop := ∀ T vs σ H, In c σ H ρ S T → RepL c.K H T vs ds → ∀ Q : St → Hp → Prop,
  (∀ σ' ρ' S' T' H', Mv T H T' H' → In c σ' H' ρ' S' T' → F ρ' S' → Q σ' H') → g vs σ H Q
theorem vgs_nil {F : Rho → Sto → Prop} (q : F ρ S) : VGs c gNil [] ρ S F := fun T vs σ H I r Q k => by
  cases r; exact ⟨rfl, k σ ρ S T H Mv.refl I q⟩
theorem vgs_cons {g : TG} {gs : TGs} {ds : List D} {F : Rho → Sto → Prop} (h : VG c g d ρ S fun ρ1 S1 => VGs c gs ds ρ1 S1 F) : VGs c (gCons g gs) (d :: ds) ρ S F := fun T vs σ H I r Q k => by
  cases r with
  | cons h1 t => exact ⟨_, _, rfl, h T _ σ H I h1 _ fun σ1 ρ1 S1 T1 H1 m1 I1 q => q T1 _ σ1 H1 I1 (t.mv m1) Q fun σ2 ρ2 S2 T2 H2 m2 => k σ2 ρ2 S2 T2 H2 (m1.trans m2)⟩
theorem vg_tup {n : Nat} {gs : TGs} {ds : List D} {F : Rho → Sto → Prop} (hn : ds.length = n) (h : VGs c gs ds ρ S F) : VG c (gTup c.K n gs) (.tup ds) ρ S F := fun T v σ H I r Q k => by
  obtain ⟨a, xs, rfl, s, r⟩ := r.seqT
  exact ⟨a, xs, rfl, s, by rw [r.length]; exact hn, h T xs σ H I r Q k⟩
/-- l[i] = e -/
theorem vg_subL {to ti : TE} {F : Rho → Sto → Prop} (h : VE c to ρ S fun x S1 => ∃ l, x = .ref l ∧ VE c ti ρ S1 fun y S2 => ∃ (i : Int) (j : Nat) (ds : List D), y = .int i ∧ S2 l = some (.lst ds) ∧ ixN ds.length i = some j ∧ F ρ (put S2 l (.lst (ds.set j d)))) : VG c (gSub to ti rSetL) d ρ S F := fun T v σ H I r Q k =>
  h T σ H I _ fun vx x S1 T1 H1 m1 c1 r1 ⟨l, e, h1⟩ => h1 T1 σ H1 (I.mv m1 c1) _ fun vy y S2 T2 H2 m2 c2 r2 ⟨i, j, ds, e2, hl, hj, q⟩ => by
    subst e e2
    cases r1
    cases r2
    obtain ⟨xs, hx, rr⟩ := c2.ok _ _ (c2.at hl)
    have rd : Rep c.K H2 T2 v d := r.mv (m1.trans m2)
    have w := mv_wr (H := H2) (d := .lst (ds.set j d)) (o := .lst (xs.set j v)) (c2.at hl)
    have cl' : Cells c.K (upd H2 l (.lst (xs.set j v))) (put S2 l (.lst (ds.set j d))) (put T2 l (.lst (ds.set j d))) := c2.wr (c2.at hl) (cell_l upd_same ((RepL.set rd j rr).mv w))
    exact ⟨l, xs, i, j, rfl, rfl, hx, by rw [rr.length]; exact hj, k σ ρ _ _ _ (m1.trans (m2.trans w)) (I.mv (m1.trans (m2.trans w)) cl') q⟩
end
end VS
namespace VS
open PySem L2 C8
section
variable {c : Ctx} {ρ : Rho} {S : Sto} {F : D → Sto → Prop} {d : D}
/-! ### what is walked -/
theorem yl_list {K : PySem.W.Frag} {T : Sto} {H : Hp} {a : Addr} {xs : List V} {ds : List D} (h : ∀ T1 H1, Mv T H T1 H1 → SqL K H1 a xs) (r : RepL K H T xs ds) : Yl K (Itl K a) ds T H := by
  refine ⟨fun H => SqL K H a xs, YAt xs, by rw [← r.length]; exact walk_list, fun T1 H1 m => h T1 H1 m, fun i d S1 T1 H1 H2 x e m cl y => ?_⟩
  obtain ⟨e1, e2⟩ := y
  subst e1
  obtain ⟨v, e3, r'⟩ := r.get e
  rw [e2] at e3
  cases e3
  exact ⟨Mv.refl, cl, r'.mv m⟩
theorem SqL.mv {K : PySem.W.Frag} {S S' : Sto} {H H' : Hp} {a : Addr} {xs : List V} (m : Mv S H S' H') (s : S a = none) (h : SqL K H a xs) : SqL K H' a xs := by
  rcases h with (h | ⟨o, h⟩) | h
  · exact .inl (.inl (m.keep _ _ s h))
  · exact .inl (.inr ⟨o, m.keep _ _ s h⟩)
  · exact .inr h
/-- a list by value -/
inductive IsW : D → List D → Prop
  | v {ds : List D} : IsW (.lst ds) ds
  | r {ds : List D} : IsW (.rol ds) ds
theorem IsW.rd {K : PySem.W.Frag} {H : Hp} {x : D} {ds : List D} {u : V} (h : IsW x ds) (r : Rep K H S u x) : ∃ a xs, u = .ref a ∧ (∀ S' H', Mv S H S' H' → SqL K H' a xs) ∧ RepL K H S xs ds := by
  cases h with
  | v => obtain ⟨a, xs, e, s, h, r⟩ := r.seqL; exact ⟨a, xs, e, fun S' H' m => SqL.mv m s (.of h), r⟩
  | r => exact r.seqR
theorem vi_list {te : TE} {W : List D → Sto → Prop} (h : VE c te ρ S fun x S1 => ∃ ds, IsW x ds ∧ W ds S1) : VI c (iList c.K te) ρ S W := fun T σ H I R k =>
  h T σ H I _ fun vx x S1 T1 H1 m1 c1 r1 ⟨ds, hx, q⟩ => by
    obtain ⟨a, xs, rfl, hq, r⟩ := hx.rd r1
    exact ⟨a, rfl, ⟨xs, hq _ _ Mv.refl⟩, k _ ds S1 T1 H1 m1 c1 (yl_list hq r) q⟩
theorem SqT.mv {K : PySem.W.Frag} {H H' : Hp} {a : Addr} {xs : List V} (k : ∀ o, H a = some o → H' a = some o) (h : SqT K H a xs) : SqT K H' a xs := by
  rcases h with (h | ⟨o, h⟩) | h
  · exact .inl (.inl (k _ h))
  · exact .inl (.inr ⟨o, k _ h⟩)
  · exact .inr h
theorem vi_tup {te : TE} {W : List D → Sto → Prop} (h : VE c te ρ S fun x S1 => ∃ ds, x = .tup ds ∧ W ds S1) : VI c (iTup c.K te) ρ S W := fun T σ H I R k =>
  h T σ H I _ fun vx x S1 T1 H1 m1 c1 r1 ⟨ds, hx, q⟩ => by
    subst hx
    have fin : ∀ a xs, vx = .ref a → (∀ T2 H2, Mv T1 H1 T2 H2 → SqT c.K H2 a xs) → RepL c.K H1 T1 xs ds → iTup c.K te = iTup c.K te → ∃ b, vx = .ref b ∧ (∃ xs, SqT c.K H1 b xs) ∧ R (Itt c.K b) H1 := fun a xs e hq r _ => by
      refine ⟨a, e, ⟨xs, hq T1 H1 Mv.refl⟩, k _ ds S1 T1 H1 m1 c1 ⟨fun H => SqT c.K H a xs, YAt xs, by rw [← r.length]; exact walk_tup, hq, fun i d S2 T2 H2 H3 x e m cl y => ?_⟩ q⟩
      obtain ⟨e1, e2⟩ := y
      subst e1
      obtain ⟨v, e3, r'⟩ := r.get e
      rw [e2] at e3
      cases e3
      exact ⟨Mv.refl, cl, r'.mv m⟩
    cases r1 with
    | tup s h r => exact fin _ _ rfl (fun T2 H2 m => .inl (.inl (m.keep _ _ s h))) r rfl
    | tupK h r => exact fin _ _ rfl (fun T2 H2 m => .inr h) r rfl
def rngD (lo : Int) (n : Nat) : List D := (List.range n).map fun i => .int (lo + (i : Nat))
theorem rngD_len {lo : Int} {n : Nat} : (rngD lo n).length = n := by simp [rngD]
theorem rngD_get {lo : Int} {n i : Nat} {d : D} (h : (rngD lo n)[i]? = some d) : i < n ∧ d = .int (lo + (i : Nat)) := by
  unfold rngD at h
  rw [List.getElem?_map] at h
  cases e : (List.range n)[i]? with
  | none => rw [e] at h; cases h
  | some j =>
    rw [e] at h
    obtain ⟨h1, h2⟩ := List.getElem?_eq_some_iff.mp e
    rw [List.getElem_range] at h2
    subst h2
    cases h
    rw [List.length_range] at h1
    exact ⟨h1, rfl⟩
theorem yl_rng {K : PySem.W.Frag} {T : Sto} {H : Hp} {lo : Int} {n : Nat} : Yl K (Itr lo n) (rngD lo n) T H := by
  refine ⟨fun _ => True, YFn fun i => .int (lo + (i : Nat)), by rw [rngD_len]; exact walk_range, fun _ _ _ => trivial, fun i d S1 T1 H1 H2 x e m cl y => ?_⟩
  obtain ⟨e1, e2⟩ := y
  subst e1 e2
  obtain ⟨_, e3⟩ := rngD_get e
  subst e3
  exact ⟨Mv.refl, cl, .int _⟩
theorem vi_rng1 {ta : TA} {W : List D → Sto → Prop} (h : VA c ta ρ S fun es S1 => ∃ j : Int, es = [.int j] ∧ (-(2 ^ 62) ≤ j ∧ j < 2 ^ 62) ∧ W (rngD 0 j.toNat) S1) : VI c (iRng1 ta) ρ S W := fun T σ H I R k =>
  h T σ H I _ fun vs es S1 T1 H1 m1 c1 r1 ⟨j, e, ⟨hl, hh⟩, q⟩ => by
    subst e
    cases r1 with
    | cons h1 t => cases t; cases h1; exact ⟨j, rfl, hl, hh, k _ _ S1 T1 H1 m1 c1 yl_rng q⟩
/-- a text's signs -/
def signsD (x : Str) : List D := x.cps.toList.map fun n => .str ⟨#[n]⟩
theorem vi_str {te : TE} {W : List D → Sto → Prop} (h : VE c te ρ S fun x S1 => ∃ z, x = .str z ∧ W (signsD z) S1) : VI c (iStr te) ρ S W := fun T σ H I R k =>
  h T σ H I _ fun vx x S1 T1 H1 m1 c1 r1 ⟨z, e, q⟩ => by
    subst e
    cases r1
    refine ⟨z, rfl, k _ (signsD z) S1 T1 H1 m1 c1 ⟨fun _ => True, _, by rw [show (signsD z).length = z.cps.size by simp [signsD]]; exact walk_str, fun _ _ _ => trivial, fun i d S2 T2 H2 H3 x e m cl y => ?_⟩ q⟩
    obtain ⟨e1, n, e2, e3⟩ := y
    subst e1 e3
    unfold signsD at e
    rw [List.getElem?_map, Array.getElem?_toList, e2] at e
    cases e
    exact ⟨Mv.refl, cl, .str _⟩
def zipD (ds es : List D) : List D := (ds.zip es).map fun p => .tup [p.1, p.2]
theorem zipD_len {ds es : List D} : (zipD ds es).length = min ds.length es.length := by simp [zipD]
theorem zipD_get {ds es : List D} {i : Nat} {d : D} (h : (zipD ds es)[i]? = some d) : ∃ a b, ds[i]? = some a ∧ es[i]? = some b ∧ d = .tup [a, b] := by
  unfold zipD at h
  rw [List.getElem?_map] at h
  cases e : (ds.zip es)[i]? with
  | none => rw [e] at h; cases h
  | some p =>
    rw [e] at h
    cases h
    obtain ⟨h1, h2⟩ := List.getElem?_zip_eq_some.mp e
    exact ⟨_, _, h1, h2, rfl⟩
theorem vi_zip {ta : TA} {W : List D → Sto → Prop} (h : VA c ta ρ S fun xs S1 => ∃ x y ds es, xs = [x, y] ∧ IsW x ds ∧ IsW y es ∧ W (zipD ds es) S1) : VI c (iZip c.K ta) ρ S W := fun T σ H I R k =>
  h T σ H I _ fun vs es S1 T1 H1 m1 c1 r1 ⟨x, y, ds, es', e, hx, hy, q⟩ => by
    subst e
    cases r1 with
    | cons h1 t => cases t with
      | cons h2 t =>
        cases t
        obtain ⟨a, xs, rfl, hq, r⟩ := hx.rd h1
        obtain ⟨b, ys, rfl, hq', r2⟩ := hy.rd h2
        refine ⟨a, b, xs, ys, rfl, hq _ _ Mv.refl, hq' _ _ Mv.refl, k _ (zipD ds es') S1 T1 H1 m1 c1 ⟨fun H => SqL c.K H a xs ∧ SqL c.K H b ys, _, walk_zip (by rw [zipD_len, r.length, r2.length]), fun T2 H2 m => ⟨hq T2 H2 m, hq' T2 H2 m⟩, fun i d S2 T2 H2 H3 y e m cl yy => ?_⟩ q⟩
        obtain ⟨T, u, w, e1, hT, e2, e3, e4⟩ := yy
        obtain ⟨p, p', e5, e6, e7⟩ := zipD_get e
        subst e1 e2 e7
        obtain ⟨v, e8, q1⟩ := r.get e5
        obtain ⟨v', e9, q2⟩ := r2.get e6
        have e3' : xs[i]? = some u := e3
        have e4' : ys[i]? = some w := e4
        rw [e3'] at e8
        rw [e4'] at e9
        cases e8
        cases e9
        exact ⟨mv_new hT, cl.new hT, .tup (cl.free hT) upd_same (.cons ((q1.mv m).mv (mv_new hT)) (.cons ((q2.mv m).mv (mv_new hT)) .nil))⟩
/-! ### for -/
theorem vx_for {wi : TI} {g : TG} {tb : TS} {nx bk ct : Rho → Sto → Prop} {rt : D → Sto → Prop}
    (h : VI c wi ρ S fun ds S1 => ∃ W : Nat → Rho → Sto → Prop, W 0 ρ S1 ∧ (∀ (i : Nat) (d : D) ρ2 S2, ds[i]? = some d → W i ρ2 S2 → VG c g d ρ2 S2 fun ρ3 S3 => VX c tb ρ3 S3 ⟨W (i + 1), rt, nx, W (i + 1)⟩) ∧ (∀ ρ2 S2, W ds.length ρ2 S2 → nx ρ2 S2)) :
    VX c (tFor wi g tb) ρ S ⟨nx, rt, bk, ct⟩ := fun T σ H I D b =>
  h T σ H I _ fun J ds S1 T1 H1 m1 c1 ⟨G, Y, w, hG, hY⟩ ⟨W, h0, hs, hd⟩ => by
    refine for_it w (fun i σ' H' => ∃ ρ2 S2 T2, Mv T1 H1 T2 H' ∧ In c σ' H' ρ2 S2 T2 ∧ W i ρ2 S2) ⟨ρ, S1, T1, Mv.refl, I.mv m1 c1, h0⟩ (fun i σ' H' _ ⟨ρ2, S2, T2, m, _, _⟩ => hG T2 H' m) ?_ ?_
    · rintro i x σ' H' H'' hi ⟨ρ2, S2, T2, m, I2, hw⟩ y
      obtain ⟨d, e⟩ : ∃ d, ds[i]? = some d := ⟨ds[i], List.getElem?_eq_getElem hi⟩
      obtain ⟨m3, c3, r3⟩ := hY i d S2 T2 H' H'' x e m I2.cells y
      refine hs i d ρ2 S2 e hw T2 x σ' H'' (I2.mv m3 c3) r3 _ fun σ3 ρ3 S3 T3 H3 m4 I3 q => ?_
      have mm := m.trans (m3.trans m4)
      have mb := m1.trans mm
      exact q T3 σ3 H3 I3 _ ⟨fun σ4 ρ4 S4 T4 H4 m5 I4 q4 => ⟨ρ4, S4, T4, mm.trans m5, I4, q4⟩, fun v d S4 T4 H4 m5 => b.rt v d S4 T4 H4 (mb.trans m5), fun σ4 ρ4 S4 T4 H4 m5 => b.nx σ4 ρ4 S4 T4 H4 (mb.trans m5), fun σ4 ρ4 S4 T4 H4 m5 I4 q4 => ⟨ρ4, S4, T4, mm.trans m5, I4, q4⟩⟩
    · rintro σ' H' ⟨ρ2, S2, T2, m, I2, hw⟩
      exact b.nx σ' ρ2 S2 T2 H' (m1.trans m) I2 (hd ρ2 S2 hw)
/-! ### comprehensions -/
def wipeR (ρ : Rho) : List Nat → Rho
  | [] => ρ
  | v :: vs => (wipeR ρ vs).set v none
theorem In.wipe {T : Sto} {σ : St} {H : Hp} (I : In c σ H ρ S T) : ∀ vs : List Nat, In c (L2.wipe σ vs) H (wipeR ρ vs) S T
  | [] => I
  | v :: vs => by
    have J := In.wipe I vs
    refine ⟨J.cells, fun j e q => ?_, by simp [L2.wipe, wipeR, J.len], J.exc⟩
    unfold wipeR at q
    by_cases z : v = j
    · subst z
      by_cases hv : v < (wipeR ρ vs).length
      · rw [List.getElem?_set_self hv] at q; cases q
      · rw [List.getElem?_eq_none (by simpa using hv)] at q; cases q
    · rw [List.getElem?_set_ne z] at q
      obtain ⟨u, h1, h2⟩ := J.slots j e q
      exact ⟨u, by unfold L2.wipe; rw [List.getElem?_set_ne z]; exact h1, h2⟩
theorem wipe_set_out {σ : St} {i : Nat} {x : Option V} : ∀ us : List Nat, i ∉ us → L2.wipe (σ.set i x) us = (L2.wipe σ us).set i x
  | [], _ => rfl
  | u :: us, hu => by
    simp only [List.mem_cons, not_or] at hu
    unfold L2.wipe
    rw [wipe_set_out us hu.2, List.set_comm _ _ hu.1]
theorem wipe_set {σ : St} {i : Nat} {x : Option V} : ∀ {vs : List Nat}, i ∈ vs → L2.wipe (σ.set i x) vs = L2.wipe σ vs
  | v :: vs, h => by
    unfold L2.wipe
    by_cases hm : i ∈ vs
    · rw [wipe_set hm]
    · have z : i = v := by
        rcases List.mem_cons.mp h with q | q
        · exact q
        · exact absurd q hm
      subst z
      rw [wipe_set_out vs hm, List.set_set]
theorem wipe_wipe {σ : St} (vs : List Nat) : ∀ us : List Nat, (∀ v ∈ us, v ∈ vs) → L2.wipe (L2.wipe σ us) vs = L2.wipe σ vs
  | [], _ => rfl
  | u :: us, h => by
    show L2.wipe ((L2.wipe σ us).set u none) vs = _
    rw [wipe_set (h u List.mem_cons_self), wipe_wipe vs us fun v hv => h v (List.mem_cons_of_mem _ hv)]
/-- the targets of a comprehension: they store its own names alone -/
def VGw (c : Ctx) (vs : List Nat) (g : TG) (d : D) (ρ : Rho) (S : Sto) (F : Rho → Sto → Prop) : Prop := ∀ T v σ H, In c σ H ρ S T → Rep c.K H T v d → ∀ Q : St → Hp → Prop,
  (∀ σ' ρ' S' T' H', L2.wipe σ' vs = L2.wipe σ vs → Mv T H T' H' → In c σ' H' ρ' S' T' → F ρ' S' → Q σ' H') → g v σ H Q
theorem vgw_name {vs : List Nat} {i : Nat} {F : Rho → Sto → Prop} (hi : i ∈ vs) (q : F (ρ.set i (some d)) S) : VGw c vs (gName i) d ρ S F := fun T v σ H I r Q k => k _ _ S T H (wipe_set hi) Mv.refl (I.set i r) q
def VGws (c : Ctx) (vs : List Nat) (g : TGs) (ds : List D) (ρ : Rho) (S : Sto) (F : Rho → Sto → Prop) : Prop := ∀ T us σ H, In c σ H ρ S T → RepL c.K H T us ds → ∀ Q : St → Hp → Prop,
  (∀ σ' ρ' S' T' H', L2.wipe σ' vs = L2.wipe σ vs → Mv T H T' H' → In c σ' H' ρ' S' T' → F ρ' S' → Q σ' H') → g us σ H Q
theorem vgws_nil {vs : List Nat} {F : Rho → Sto → Prop} (q : F ρ S) : VGws c vs gNil [] ρ S F := fun T us σ H I r Q k => by
  cases r; exact ⟨rfl, k σ ρ S T H rfl Mv.refl I q⟩
theorem vgws_cons {vs : List Nat} {g : TG} {gs : TGs} {ds : List D} {F : Rho → Sto → Prop} (h : VGw c vs g d ρ S fun ρ1 S1 => VGws c vs gs ds ρ1 S1 F) : VGws c vs (gCons g gs) (d :: ds) ρ S F := fun T us σ H I r Q k => by
  cases r with
  | cons h1 t => exact ⟨_, _, rfl, h T _ σ H I h1 _ fun σ1 ρ1 S1 T1 H1 e1 m1 I1 q => q T1 _ σ1 H1 I1 (t.mv m1) Q fun σ2 ρ2 S2 T2 H2 e2 m2 => k σ2 ρ2 S2 T2 H2 (e2.trans e1) (m1.trans m2)⟩
theorem vgw_tup {vs : List Nat} {n : Nat} {gs : TGs} {ds : List D} {F : Rho → Sto → Prop} (hn : ds.length = n) (h : VGws c vs gs ds ρ S F) : VGw c vs (gTup c.K n gs) (.tup ds) ρ S F := fun T v σ H I r Q k => by
  obtain ⟨a, xs, rfl, s, r⟩ := r.seqT
  exact ⟨a, xs, rfl, s, by rw [r.length]; exact hn, h T xs σ H I r Q k⟩
/-- the heart -/
theorem lc_heart {wi : TI} {g : TG} {tt : TT} {te : TE} {vs : List Nat} {R : List D → Sto → Prop}
    (h : VI c wi ρ S fun ds S1 => ds.length ≤ 100000 ∧ ∃ W : Nat → List D → Sto → Prop, W 0 [] S1 ∧ (∀ (i : Nat) (d : D) acc S2, ds[i]? = some d → W i acc S2 → acc.length ≤ i → VGw c vs g d (wipeR ρ vs) S2 fun ρ3 S3 => VT c tt ρ3 S3 fun b S4 => (b = true → VE c te ρ3 S4 fun y S5 => W (i + 1) (acc ++ [y]) S5) ∧ (b = false → W (i + 1) acc S4)) ∧
      (∀ acc S2, W ds.length acc S2 → acc.length ≤ ds.length → R acc S2)) {T : Sto} {σ : St} {H : Hp} (I : In c σ H ρ S T) {Q : VK}
    (k : ∀ p xs acc S' T' H' T1 H1, Mv T H T1 H1 → Mv T1 H1 T' H' → Cells c.K H' S' T' → T' p = some .hid → H1 p = none → H' p = some (.lst xs) → RepL c.K H' T' xs acc → R acc S' → Q (.ref p) H') : tLc wi g tt te vs σ H Q :=
  h T σ H I _ fun J ds S1 T1 H1 m1 c1 ⟨G, Y, w, hG, hY⟩ ⟨hl, W, h0, hs, hd⟩ => fun p hp => by
    refine lc_it w (fun i H' => ∃ S2 T2 xs acc, Mv T1 H1 T2 H' ∧ Cells c.K H' S2 T2 ∧ T2 p = some .hid ∧ H' p = some (.lst xs) ∧ RepL c.K H' T2 xs acc ∧ acc.length ≤ i ∧ W i acc S2)
      ⟨S1, put T1 p .hid, [], [], mv_newc hp, c1.newh hp, put_same, upd_same, .nil, Nat.le_refl _, h0⟩ (fun i H' _ ⟨S2, T2, _, _, m, _⟩ => hG T2 H' m) ?_ ?_
    · rintro i x H' H'' hi ⟨S2, T2, xs, acc, m, c2, s2, hx, r2, hle, hw⟩ y
      obtain ⟨d, e⟩ : ∃ d, ds[i]? = some d := ⟨ds[i], List.getElem?_eq_getElem hi⟩
      obtain ⟨m3, c3, r3⟩ := hY i d S2 T2 H' H'' x e m c2 y
      have I2 : In c σ H'' ρ S2 T2 := I.mv (m1.trans (m.trans m3)) c3
      refine hs i d acc S2 e hw hle T2 x (L2.wipe σ vs) H'' (I2.wipe vs) r3 _ fun σ3 ρ3 S3 T3 H3 ew m4 I3 q => ⟨ew.trans (wipe_wipe vs vs fun _ h => h), ?_⟩
      refine q T3 σ3 H3 I3 _ fun b S4 T4 H4 m5 c4 ⟨q1, q2⟩ => ?_
      have mm := m3.trans (m4.trans m5)
      cases b with
      | true =>
        refine iteT (q1 rfl T4 σ3 H4 (I3.mv m5 c4) _ fun v y S5 T5 H5 m6 c5 r5 q5 => ?_)
        have m7 := mm.trans m6
        obtain ⟨hx5, s5⟩ := m7.hid _ _ s2 hx
        refine ⟨xs, hx5, ?_, S5, T5, xs ++ [v], acc ++ [y], (m.trans m7).hidw hp, c5.hidw s5, s5, upd_same, ((r2.mv m7).append (.cons r5 .nil)).mk (mk_hid s5), ?_, q5⟩
        · rw [r2.length]
          exact Nat.lt_of_lt_of_le (show acc.length < 100001 by omega) (by decide)
        · rw [List.length_append, List.length_singleton]
          omega
      | false =>
        obtain ⟨hx5, s5⟩ := mm.hid _ _ s2 hx
        exact iteF ⟨S4, T4, xs, acc, m.trans mm, c4, s5, hx5, r2.mv mm, by omega, q2 rfl⟩
    · rintro H' ⟨S2, T2, xs, acc, m, c2, s2, hx, r2, hle, hw⟩
      exact k p xs acc S2 T2 H' T1 H1 m1 m c2 s2 hp hx r2 (hd acc S2 hw hle)
theorem Mv.unhid {S S' : Sto} {H H' : Hp} {p : Addr} (m : Mv S H S' H') (h : H p = none) : Mv S H (del S' p) H' where
  keep := m.keep
  fresh := fun a s e => by
    unfold del
    split
    · rfl
    · exact m.fresh a s e
  hid := fun a o s e => by
    obtain ⟨e1, e2⟩ := m.hid a o s e
    refine ⟨e1, ?_⟩
    rw [del_ne (ne_of_none e h)]
    exact e2
theorem Mv.show {S S' : Sto} {H H' : Hp} {p : Addr} {d : D} (m : Mv S H S' H') (h : H p = none) : Mv S H (put S' p d) H' where
  keep := m.keep
  fresh := fun a s e => by
    rw [put_ne]
    · exact m.fresh a s e
    · intro z; subst z; exact e h
  hid := fun a o s e => by
    obtain ⟨e1, e2⟩ := m.hid a o s e
    refine ⟨e1, ?_⟩
    rw [put_ne (ne_of_none e h)]
    exact e2
theorem Cells.show {K : PySem.W.Frag} {S T : Sto} {H : Hp} {p : Addr} {xs : List V} {ds : List D} (cl : Cells K H S T) (s : T p = some .hid) (hx : H p = some (.lst xs)) (r : RepL K H T xs ds) : Cells K H (put S p (.lst ds)) (put T p (.lst ds)) := by
  have m : Mk T H (put T p (.lst ds)) H := by
    refine ⟨fun _ _ _ h => h, fun a q _ => ?_⟩
    rw [put_ne]
    · exact q
    · intro z; subst z; rw [s] at q; cases q
  refine ⟨ov_put cl.ov (by nofun), fun a e q => ?_⟩
  by_cases z : a = p
  · subst z; rw [put_same] at q; cases q; exact cell_l hx (r.mk m)
  · rw [put_ne z] at q
    exact CellOk.mk m rfl (cl.ok a e q)
/-- [e for x in xs if t], by value -/
theorem ve_lc {wi : TI} {g : TG} {tt : TT} {te : TE} {vs : List Nat}
    (h : VI c wi ρ S fun ds S1 => ds.length ≤ 100000 ∧ ∃ W : Nat → List D → Sto → Prop, W 0 [] S1 ∧ (∀ (i : Nat) (d : D) acc S2, ds[i]? = some d → W i acc S2 → acc.length ≤ i → VGw c vs g d (wipeR ρ vs) S2 fun ρ3 S3 => VT c tt ρ3 S3 fun b S4 => (b = true → VE c te ρ3 S4 fun y S5 => W (i + 1) (acc ++ [y]) S5) ∧ (b = false → W (i + 1) acc S4)) ∧
      (∀ acc S2, W ds.length acc S2 → acc.length ≤ ds.length → F (.lst acc) S2)) : VE c (tLc wi g tt te vs) ρ S F := fun T σ H I Q k =>
  lc_heart (R := fun acc S2 => F (.lst acc) S2) h I fun p xs acc S' T' H' T1 H1 m1 m cl s n hx r q => by
    exact k _ (.lst acc) S' (del T' p) H' (m1.trans (m.unhid n)) (cl.unhid s) (.lst del_same hx (r.mk (mk_show s))) q
/-- .. by reference -/
theorem ve_lcc {wi : TI} {g : TG} {tt : TT} {te : TE} {vs : List Nat}
    (h : VI c wi ρ S fun ds S1 => ds.length ≤ 100000 ∧ ∃ W : Nat → List D → Sto → Prop, W 0 [] S1 ∧ (∀ (i : Nat) (d : D) acc S2, ds[i]? = some d → W i acc S2 → acc.length ≤ i → VGw c vs g d (wipeR ρ vs) S2 fun ρ3 S3 => VT c tt ρ3 S3 fun b S4 => (b = true → VE c te ρ3 S4 fun y S5 => W (i + 1) (acc ++ [y]) S5) ∧ (b = false → W (i + 1) acc S4)) ∧
      (∀ acc S2, W ds.length acc S2 → acc.length ≤ ds.length → ∀ p, S2 p = none → F (.ref p) (put S2 p (.lst acc)))) : VE c (tLc wi g tt te vs) ρ S F := fun T σ H I Q k =>
  lc_heart (R := fun acc S2 => ∀ p, S2 p = none → F (.ref p) (put S2 p (.lst acc))) h I fun p xs acc S' T' H' T1 H1 m1 m cl s n hx r q => by
    have sp : S' p = none := by
      rcases cl.ov p with ⟨_, e⟩ | ⟨e, _⟩
      · exact absurd s e
      · exact e
    exact k _ _ _ (put T' p (.lst acc)) H' (m1.trans (m.show n)) (cl.show s hx r) (.ref p) (q p sp)
end
end VS
namespace VS
open PySem L2 C8 PySem.Spec PyProof.Rows
/-! ### a def's promise where nothing is being shown around (repr asks that) -/
structure FnG (P : Program) (w : World) (K : PySem.W.Frag) (mg : Str → Option Value) (base : Heap) (CX : CXT) (k : Nat) (f : Addr) (fd : FuncData) (ps : List Str) (sp : Sp) : Prop where
  len : ∀ vs H Q E, sp vs H Q E → vs.length = ps.length
  run : ∀ (A : Around), A.guards = some [] → ∀ (outer : List Env) (s : Shared) (H : Hp) (args : Args) (us : List Value) (vs : List V) (Q : VK) (E : XK), Room k A →
    Env0 P w K mg base A outer s H → BindsTo s fd args (ps.zip us) → Vals vs us → sp vs H Q E → codeAny (model P w) A (.call (.ref f) args) (CR CX outer P w H s Q E) s
abbrev Fd (K : PySem.W.Frag) (x qual : Str) (st : Stmt) (dvs : List V) (f : Addr) (fd : FuncData) : Prop := FunD K x qual (defArgs st) (defBody st) (defScope st) dvs [] f fd
/-- what a callee lets out is taken, at the slots as they are -/
def PassS (CX : CXT) (X : Cx) (E : L2.St → XK) : Prop := ∀ (pins : List (Addr × Obj)) (σ : L2.St) (H : Hp) (s : Shared) (e : Value) (s' : Shared), Inv X pins σ H s → CX X.stack H s (E σ) e s' → X.xe e s'
theorem passS_of {X : Cx} {W : WX} (tk : Takes X W) : PassS (L2.CX X.prog X.w) X (fun σ cls d H => W cls d σ H) := fun _ σ _ _ e s' I c => tk e s' (XE.of_call I (fun _ _ _ h => h) c)
/-- nothing is let out -/
def noE : L2.St → XK := fun _ _ _ _ => False
theorem pass0 {X : Cx} : PassS (L2.CX X.prog X.w) X noE := fun _ _ _ _ _ _ _ h => by
  obtain ⟨_, _, _, _, _, _, _, _, _, _, _, _, z⟩ := h
  exact z.elim
section
variable {P : Program} {w : World} {K : PySem.W.Frag} {mg : Str → Option Value} {base : Heap} {CX : CXT}
/-- a def by its body -/
theorem fnG_of {x qual : Str} {st : Stmt} {dvs : List V} {f : Addr} {fd : FuncData} {N ps : List Str} {k : Nat} {sp : Sp} (F : Fd K x qual st dvs f fd) (Sc : FnScope N ps (defScope st)) (len : ∀ vs H Q E, sp vs H Q E → vs.length = ps.length)
    (body : ∀ (cdv : Value) (A : Around), A.guards = some [] → ∀ (outer : List Env) (s : Shared) (H : Hp) (vs : List V) (Q : VK) (E : XK), Room k (A.deeper (envOfC qual (defScope st) s.heap.objs.size f cdv)) → sp vs H Q E →
      ∃ t, PSs (cxOf CX P w K mg base N qual (defScope st) f cdv A outer s H E) (defBody st) t ∧ t ⟨fun _ H' => Q .non H', Q, fun _ _ => False, fun _ _ => False⟩ (L2.start N vs) H) : FnG P w K mg base CX (k + 1) f fd ps sp := by
  obtain ⟨oc, od, dV, kV, doc, pm, an, cdv, ct, osl, rfl, lk, hcd, _, _⟩ := F.ex
  refine ⟨len, fun A hgd outer s H args us vs Q E room en hb rv hsp => ?_⟩
  have heap_in : K.In s.heap := en.mod.kin.keeps fun b o e => (en.bs b o e).1
  have nolim : s.heap.NoLimit := en.mod.nolimit.keeps fun b o e => (en.bs b o e).1
  refine codeAny_call_function room.depth (heap_in _ _ lk) rfl Sc.co Sc.gen rfl (PySem.W.codeRec_of heap_in hcd) (hb _ _ _ _ ?_)
  have kinds : ∀ y ∈ ps.zip us, (defScope st).names.lookup y.1 = some .local ∨ ((defScope st).names.lookup y.1 = some .cell ∧ ((cellsFrom (s.heap.objs.size + 1) (defScope st).names []).lookup y.1).isSome = true) := by
    rintro ⟨n, v⟩ hy
    cases Sc.par n (List.of_mem_zip hy).1 with
    | inl q => exact .inl q
    | inr q => exact .inr ⟨q, PySem.W.cellsFrom_some _ _ _ (.inl q)⟩
  refine wpAny_newFunctionEnv_cells Sc.kind kinds fun env he s1 inc => ?_
  subst he
  obtain ⟨t, ht, hq⟩ := body cdv A hgd outer s H vs Q E (room.deeper _) hsp
  refine ⟨nolim.keeps inc.toInCall.keep, codeAny_func (wpAny_mono (ht.run [] s1 (L2.start N vs) H _ (inv_start Sc room.hd en (len _ _ _ _ hsp) rv inc) hq) (fun fl s2 hs => ?_) fun _ _ q => q)⟩
  cases fl with
  | next => obtain ⟨σ2, H2, J, q⟩ := hs; exact ⟨.non, H2, J.os, J.bare, J.base, J.hok, rfl, q⟩
  | ret u => obtain ⟨v, σ2, H2, J, r2, q⟩ := hs; exact ⟨v, H2, J.os, J.bare, J.base, J.hok, r2, q⟩
  | brk => obtain ⟨_, _, _, q⟩ := hs; exact q.elim
  | cont => obtain ⟨_, _, _, q⟩ := hs; exact q.elim
/-- .. by value -/
def startR (N : List Str) (ds : List D) : Rho := ds.map some ++ List.replicate (N.length - ds.length) none
theorem in_start {c : Ctx} {N : List Str} {vs : List V} {ds : List D} {S T : Sto} {H : Hp} (cl : Cells c.K H S T) (r : RepL c.K H T vs ds)
    (ex : ∀ (σ' : L2.St) (ρ' : Rho) (C : Addr) (d : Option Addr) (fs : List (Str × D)) (S' T' : Sto) (H' : Hp), Mv T H T' H' → Cells c.K H' S' T' → Sl c.K H' T' σ' ρ' → XRep c.K H' T' d fs → c.Y C fs ρ' S' → c.E σ' (.ref C) d H') : In c (L2.start N vs) H (startR N ds) S T := by
  refine ⟨cl, fun i d e => ?_, by simp [L2.start, startR, r.length], ex⟩
  unfold startR at e
  by_cases hi : i < ds.length
  · rw [List.getElem?_append_left (by simpa using hi), List.getElem?_map] at e
    cases q : ds[i]? with
    | none => rw [q] at e; cases e
    | some d' =>
      rw [q] at e
      cases e
      obtain ⟨v, h1, h2⟩ := r.get q
      refine ⟨v, ?_, h2⟩
      unfold L2.start
      rw [List.getElem?_append_left (by rw [List.length_map, r.length]; exact hi), List.getElem?_map, h1] <;> rfl
  · rw [List.getElem?_append_right (by simpa using Nat.le_of_not_lt hi), List.getElem?_replicate] at e
    split at e <;> cases e
theorem fn_val {x qual : Str} {st : Stmt} {dvs : List V} {f : Addr} {fd : FuncData} {N ps : List Str} {k : Nat} {p : Pt} (F : Fd K x qual st dvs f fd) (Sc : FnScope N ps (defScope st)) (len : ∀ ds S G Y, p ds S G Y → ds.length = ps.length)
    (body : ∀ (cdv : Value) (A : Around), A.guards = some [] → ∀ (outer : List Env) (s : Shared) (H : Hp) (E : XK), Room k (A.deeper (envOfC qual (defScope st) s.heap.objs.size f cdv)) →
      PassS (L2.CX P w) (cxOf (L2.CX P w) P w K mg base N qual (defScope st) f cdv A outer s H E) (fun _ => E) → Takes (cxOf (L2.CX P w) P w K mg base N qual (defScope st) f cdv A outer s H E) (fun cls d _ H' => E cls d H') →
      PassesOwn (model P w) (A.deeper (envOfC qual (defScope st) s.heap.objs.size f cdv)) (envOfC qual (defScope st) s.heap.objs.size f cdv) (cxOf (L2.CX P w) P w K mg base N qual (defScope st) f cdv A outer s H E).xe → ∀ ds S G Y, p ds S G Y →
      ∃ t, PSs (cxOf (L2.CX P w) P w K mg base N qual (defScope st) f cdv A outer s H E) (defBody st) t ∧ VX ⟨K, fun _ => E, fun C fs _ S' => Y C fs S'⟩ t (startR N ds) S ⟨fun _ S' => G .non S', G, fun _ _ => False, fun _ _ => False⟩) : FnG P w K mg base (L2.CX P w) (k + 1) f fd ps (spOf K p) := by
  refine fnG_of F Sc (fun vs H Q E h => ?_) fun cdv A hgd outer s H vs Q E room h => ?_
  · obtain ⟨ds, S, T, G, Y, r, _, hp, _⟩ := h
    rw [r.length]
    exact len _ _ _ _ hp
  · obtain ⟨ds, S, T, G, Y, r, cl, hp, hv, hx⟩ := h
    have tk : Takes (cxOf (L2.CX P w) P w K mg base N qual (defScope st) f cdv A outer s H E) (fun cls d _ H' => E cls d H') := takes_of rfl rfl rfl rfl
    obtain ⟨t, h1, h2⟩ := body cdv A hgd outer s H E room (passS_of tk) tk PassesOwn.leaving ds S G Y hp
    refine ⟨t, h1, h2 T _ H (in_start (c := ⟨K, fun _ => E, fun C fs _ S' => Y C fs S'⟩) cl r (fun _ _ C d fs S' T' H' m c2 _ x y => hx C d fs S' T' H' m c2 x y)) _ ⟨fun σ' ρ' S' T' H' m I' q => ?_, fun v d S' T' H' m c2 r2 q => hv v d S' T' H' m c2 r2 q, fun _ _ _ _ _ _ _ q => q.elim, fun _ _ _ _ _ _ _ q => q.elim⟩⟩
    exact hv .non .non S' T' H' m I'.cells .non q
end
/-! ### calls -/
def tCallE (sp : Sp) (dvs : List V) (E : L2.St → XK) (t : TA) : TE := fun σ H Q => t σ H fun vs H1 => sp (vs ++ dvs) H1 Q (E σ)
def tMethE (C : Addr) (m : Str) (sp : Sp) (dvs : List V) (E : L2.St → XK) (ta : TE) (t : TA) : TE := fun σ H Q => ta σ H fun y H1 => ∃ a dx fs, y = .ref a ∧ H1 a = some (.ins C dx fs) ∧ fs.lookup m = none ∧ t σ H1 fun vs H2 => sp (y :: (vs ++ dvs)) H2 Q (E σ)
def tMakeE (C : Addr) (sp : Sp) (dvs : List V) (E : L2.St → XK) (t : TA) : TE := fun σ H Q => t σ H fun vs H1 => ∀ y dx, H1 y = none → H1 dx = none → dx ≠ y →
  sp (.ref y :: (vs ++ dvs)) (upd (upd H1 dx (.own y)) y (.ins C dx [])) (fun v H2 => v = .non ∧ Q (.ref y) H2) (E σ)
section
variable {X : Cx} {CX : CXT} {k n : Nat} {f C : Addr} {fd : FuncData} {ps ks : List Str} {sp : Sp} {dvs : List V} {ds : List Value} {E : L2.St → XK} {x m : Str} {p pos apos : Pos} {e o : Expr} {es : List Expr} {kws : List Keyword} {ta : TE} {t tk : TA} {g : List Value → List Value → List Value} {gV : List V → List V → List V}
theorem call_end {pins : List (Addr × Obj)} {σ : L2.St} {H : Hp} {s s' : Shared} {Q : VK} {r : Result} (hx : PassS CX X E) (I : Inv X pins σ H s) (h : CR CX X.stack X.prog X.w H s Q (E σ) r s') :
    (match r with | .ok (.ret u) => EP X pins σ Q u s' | .ok _ => False | .error e => X.xe e s') := by
  cases r with
  | error e => exact hx pins σ H s e s' I h
  | ok fl =>
    cases fl with
    | ret u => exact I.after h
    | next => exact h
    | brk => exact h
    | cont => exact h
/-- the callee runs: us the values as handed, vs the values as bound -/
theorem callG {pins : List (Addr × Obj)} {σ : L2.St} {H : Hp} {s : Shared} {Q : VK} {us bs : List Value} {kw : List (Str × Value)} {vs : List V} (F : FnG X.prog X.w X.K X.mg X.base CX k f fd ps sp) (hgd : X.A.guards = some []) (hr : Room k X.A)
    (hb : BindsTo s fd ⟨us, kw⟩ (ps.zip bs)) (hx : PassS CX X E) (I : Inv X pins σ H s) (r : Vals vs bs) (h : sp vs H Q (E σ)) : wpAny (model X.prog X.w) X.A (call (.ref f) us kw) (EP X pins σ Q) X.xe s :=
  wpAny_call (codeAny_mono (F.run X.A hgd X.stack s H ⟨us, kw⟩ bs vs Q (E σ) hr I.env0 hb r h) fun r s' q => by
    have z := call_end hx I q
    cases r with
    | error e => exact z
    | ok fl => cases fl <;> exact z)
theorem bindsAt {fd : FuncData} {K : PySem.W.Frag} {s : Shared} {us : List Value} {vs : List V} (hb : Binds K fd ps ds) (hd : Vals dvs ds) (X : K.In s.heap) (r : Vals vs us) (hl : (vs ++ dvs).length = ps.length) : BindsTo s fd ⟨us, []⟩ (ps.zip (us ++ ds)) :=
  hb s us X ((r.append hd).length.symm.trans hl)
/-- f(e, ..) -/
theorem pe_cG (F : FnG X.prog X.w X.K X.mg X.base CX k f fd ps sp) (hgd : X.A.guards = some []) (hr : Room k X.A) (hg : Gl X x) (hm : X.mg x = some (.ref f)) (hk : PySem.W.keepIn X.K (.ref f) = true) (hb : Binds X.K fd ps ds) (hd : Vals dvs ds) (hx : PassS CX X E)
    (ha : PA X (e :: es) t) (hdb : (x == ("__debug__" : Str)) = false := by decide) (he : starEach (e :: es) X.env = (false, eval e X.env) :: starEach es X.env := by rfl) (hpl : (backTo pos (starEach es X.env)).any (·.1) = false := by rfl) :
    PE X (.Call (.Name x p) (e :: es) [] pos) (tCallE sp dvs E t) where
  run := fun pins s σ H Q I h => wpAny_Call_Name_kw (ld_glob I hg hm (PySem.W.callWith_K (h₀ := X.base) I.ok.mod.kin hk (thn (ha.run pos pins s σ H _ I h) fun us s1 ⟨vs, H1, I1, r, q⟩ =>
    ⟨I1.kIn, callG F hgd hr (bindsAt hb hd I1.kIn r (F.len _ _ _ _ q)) hx I1 (r.append hd) q⟩) he hpl) hdb)
/-- o.m(e, ..) -/
theorem pe_mG {pl : Sem Bool} (he : PE X o ta) (c : Cls X.K C) (hm : Meth X.K C m f) (F : FnG X.prog X.w X.K X.mg X.base CX k f fd ps sp) (hgd : X.A.guards = some []) (hr : Room k X.A) (hb : Binds X.K fd ps ds) (hd : Vals dvs ds) (hx : PassS CX X E) (ha : PA X (e :: es) t)
    (hst : starEach (e :: es) X.env = (false, eval e X.env) :: starEach es X.env := by rfl) (hpl : (backTo pos (starEach es X.env)).any (·.1) = false := by rfl)
    (ht : eval (.Call (.Attribute o m apos) (e :: es) [] pos) X.env = (do
      let recv ← eval o X.env
      standAt apos.atName
      let (fn, ahead) ← holding [recv] (getMethod recv m pl)
      callWith pos fn ahead (backTo pos (starEach (e :: es) X.env)) (backToKw pos (keywordEach [] X.env))) := by rfl) :
    PE X (.Call (.Attribute o m apos) (e :: es) [] pos) (tMethE C m sp dvs E ta t) where
  run := fun pins s σ H Q I h => by
    refine PySem.W.methodCall_KW (pl := pl) (thn (he.run pins s σ H _ I h) fun u s1 ⟨y, H1, I1, ry, a, dx, fs, ey, ea, l, q⟩ => ?_) ht
    subst ey
    cases ry
    refine getmeth_ok I1 ea c hm l (PySem.W.callWith_K (first := [.ref a]) (h₀ := X.base) I.ok.mod.kin hm.kp (thn (ha.run pos pins s1 σ H1 _ I1 q) fun us s2 ⟨vs, H2, I2, r, q2⟩ => ⟨I2.kIn, ?_⟩) hst hpl)
    exact callG F hgd hr (bindsAt (vs := .ref a :: vs) (us := .ref a :: us) hb hd I2.kIn (.cons rfl r) (F.len _ _ _ _ q2)) hx I2 (vs := .ref a :: (vs ++ dvs)) (.cons rfl (r.append hd)) q2
theorem pe_mG0 {pl : Sem Bool} (he : PE X o ta) (c : Cls X.K C) (hm : Meth X.K C m f) (F : FnG X.prog X.w X.K X.mg X.base CX k f fd ps sp) (hgd : X.A.guards = some []) (hr : Room k X.A) (hb : Binds X.K fd ps ds) (hd : Vals dvs ds) (hx : PassS CX X E)
    (ht : eval (.Call (.Attribute o m apos) [] [] pos) X.env = (do
      let recv ← eval o X.env
      standAt apos.atName
      let (fn, ahead) ← holding [recv] (getMethod recv m pl)
      callWith pos fn ahead (backTo pos (starEach [] X.env)) (backToKw pos (keywordEach [] X.env))) := by rfl) :
    PE X (.Call (.Attribute o m apos) [] [] pos) (tMethE C m sp dvs E ta tNil) where
  run := fun pins s σ H Q I h => by
    refine PySem.W.methodCall_KW (pl := pl) (thn (he.run pins s σ H _ I h) fun u s1 ⟨y, H1, I1, ry, a, dx, fs, ey, ea, l, q⟩ => ?_) ht
    subst ey
    cases ry
    refine getmeth_ok I1 ea c hm l ?_
    exact PySem.W.callWith_K0 (first := [.ref a]) I1.kIn hm.kp (callG F hgd hr (bindsAt (vs := [.ref a]) (us := [.ref a]) hb hd I1.kIn (.cons rfl .nil) (F.len _ _ _ _ q)) hx I1 (vs := .ref a :: dvs) (.cons rfl hd) q)
/-- C(e, ..): the instance is made, __init__ runs; bs: the values as bound -/
theorem made_guards {A : Around} {us : List Value} {kw : List (Str × Value)} (h : A.guards = some []) : (A.under (.builtin "type.__call__" ⟨.ref C :: us, kw⟩)).guards = some [] := by
  have e : (Code.builtin "type.__call__" ⟨.ref C :: us, kw⟩).guards = [] := rfl
  show pushGuards (Code.builtin "type.__call__" ⟨.ref C :: us, kw⟩).guards A.guards = some []
  rw [e, h] <;> rfl
theorem makeG {pins : List (Addr × Obj)} {σ : L2.St} {H : Hp} {s : Shared} {Q : VK} {us : List Value} {kw : List (Str × Value)} {bs : Value → List Value} {bv : V → List V} (M : L2.Mk X.K C f) (F : FnG X.prog X.w X.K X.mg X.base CX k f fd ps sp) (hgd : X.A.guards = some []) (hr : Room (k + 1) X.A)
    (hb : ∀ y s', X.K.In s'.heap → (bv (.ref y)).length = ps.length → BindsTo s' fd ⟨.ref y :: us, kw⟩ (ps.zip (bs (.ref y)))) (hx : PassS CX X E) (I : Inv X pins σ H s) (r : ∀ y, Vals (bv (.ref y)) (bs (.ref y)))
    (h : ∀ y dx, H y = none → H dx = none → dx ≠ y → sp (bv (.ref y)) (upd (upd H dx (.own y)) y (.ins C dx [])) (fun v H2 => v = .non ∧ Q (.ref y) H2) (E σ)) : wpAny (model X.prog X.w) X.A (call (.ref C) us kw) (EP X pins σ Q) X.xe s := by
  have hs := h (s.heap.objs.size + 1) s.heap.objs.size (I.hok.fresh (Nat.le_succ _)) (I.hok.fresh (Nat.le_refl _)) (Nat.ne_of_lt (Nat.lt_succ_self _))
  have J := Inv.made (C := C) I
  have bd := hb (s.heap.objs.size + 1) _ J.kIn (F.len _ _ _ _ hs)
  refine wpAny_call (make_map (f := f) I.kIn M.makes M.init (beq_iff_eq.mp M.fn) (codeAny_mono (F.run _ (made_guards hgd) X.stack _ _ ⟨Value.ref (s.heap.objs.size + 1) :: us, kw⟩ _ _ _ (E σ) (hr.make C us kw) (J.env0.make C us kw) bd (r _) hs) fun rr s' q => ?_))
  have z := call_end hx J q
  cases rr with
  | error e => exact z
  | ok fl =>
    cases fl with
    | ret u =>
      obtain ⟨v, H3, I3, rv, ev, q3⟩ := z
      subst ev
      exact ⟨rv, V.ref (s.heap.objs.size + 1), H3, I3, rfl, q3⟩
    | next => exact z
    | brk => exact z
    | cont => exact z
theorem pe_kG (M : L2.Mk X.K C f) (F : FnG X.prog X.w X.K X.mg X.base CX k f fd ps sp) (hgd : X.A.guards = some []) (hr : Room (k + 1) X.A) (hg : Gl X x) (hm : X.mg x = some (.ref C)) (hb : Binds X.K fd ps ds) (hd : Vals dvs ds) (hx : PassS CX X E)
    (ha : PA X (e :: es) t) (hdb : (x == ("__debug__" : Str)) = false := by decide) (he : starEach (e :: es) X.env = (false, eval e X.env) :: starEach es X.env := by rfl) (hpl : (backTo pos (starEach es X.env)).any (·.1) = false := by rfl) :
    PE X (.Call (.Name x p) (e :: es) [] pos) (tMakeE C sp dvs E t) where
  run := fun pins s σ H Q I h => wpAny_Call_Name_kw (ld_glob I hg hm (PySem.W.callWith_K (h₀ := X.base) I.ok.mod.kin M.kp (thn (ha.run pos pins s σ H _ I h) fun us s1 ⟨vs, H1, I1, r, q⟩ =>
    ⟨I1.kIn, makeG (bs := fun y => y :: (us ++ ds)) (bv := fun y => y :: (vs ++ dvs)) M F hgd hr (fun y s' ki hl => bindsAt (vs := .ref y :: vs) (us := .ref y :: us) hb hd ki (.cons rfl r) hl) hx I1 (fun y => .cons rfl (r.append hd)) q⟩) he hpl) hdb)
theorem pe_kG0 (M : L2.Mk X.K C f) (F : FnG X.prog X.w X.K X.mg X.base CX k f fd ps sp) (hgd : X.A.guards = some []) (hr : Room (k + 1) X.A) (hg : Gl X x) (hm : X.mg x = some (.ref C)) (hb : Binds X.K fd ps ds) (hd : Vals dvs ds) (hx : PassS CX X E)
    (hdb : (x == ("__debug__" : Str)) = false := by decide) : PE X (.Call (.Name x p) [] [] pos) (tMakeE C sp dvs E tNil) where
  run := fun pins s σ H Q I h => wpAny_Call_Name_kw (ld_glob I hg hm (PySem.W.callWith_K0 I.kIn M.kp
    (makeG (us := []) (bs := fun y => y :: ([] ++ ds)) (bv := fun y => y :: ([] ++ dvs)) M F hgd hr (fun y s' ki hl => bindsAt (vs := [.ref y]) (us := [.ref y]) hb hd ki (.cons rfl .nil) hl) hx I (fun y => .cons rfl hd) h)) hdb)
end
/-! ### calls by value -/
section
variable {c : Ctx} {ρ : Rho} {S : Sto} {F : D → Sto → Prop} {d : D}
/-- what is wanted of a callee's exception: what the caller wishes, or nothing is raised -/
inductive XOk (c : Ctx) (ρ : Rho) : (L2.St → XK) → (Addr → List (Str × D) → Sto → Prop) → Prop
  | same {Y : Addr → List (Str × D) → Sto → Prop} (h : ∀ C fs S, Y C fs S → c.Y C fs ρ S) : XOk c ρ c.E Y
  | none {E : L2.St → XK} : XOk c ρ E noY
theorem XOk.ok {c : Ctx} {E : L2.St → XK} {Y : Addr → List (Str × D) → Sto → Prop} {ρ : Rho} (x : XOk c ρ E Y) {σ : L2.St} {H : Hp} {S T : Sto} (I : In c σ H ρ S T) :
    ∀ (C : Addr) (y : Option Addr) (fs : List (Str × D)) (S' T' : Sto) (H' : Hp), Mv T H T' H' → Cells c.K H' S' T' → XRep c.K H' T' y fs → Y C fs S' → E σ (.ref C) y H' := by
  cases x with
  | same h => exact fun C y fs S' T' H' m cl x q => I.exc σ ρ C y fs S' T' H' m cl (I.mv m cl).sl x (h C fs S' q)
  | none => exact fun _ _ _ _ _ _ _ _ _ z => z.elim
theorem ve_f {p : Pt} {E : L2.St → XK} {Y} {t : TA} (x : XOk c ρ E Y) (h : VA c t ρ S fun ds S1 => p ds S1 F Y) : VE c (tCallE (spOf c.K p) [] E t) ρ S F := fun T σ H I Q k =>
  h T σ H I _ fun us ds S1 T1 H1 m1 c1 r1 h1 => ⟨ds, S1, T1, F, Y, by rw [List.append_nil]; exact r1, c1, h1, fun v d S2 T2 H2 m2 c2 r2 q => k v d S2 T2 H2 (m1.trans m2) c2 r2 q, x.ok (I.mv m1 c1)⟩
/-- an instance, by value or by reference -/
inductive IsI (S : Sto) : D → Addr → List (Str × D) → Prop
  | v {C : Addr} {fs : List (Str × D)} : IsI S (.ins C fs) C fs
  | c {l C : Addr} {fs : List (Str × D)} (h : S l = some (.ins C fs)) : IsI S (.ref l) C fs
theorem IsI.rd {K : PySem.W.Frag} {H : Hp} {T : Sto} {x : D} {C : Addr} {ds : List (Str × D)} {u : V} (h : IsI S x C ds) (cl : Cells K H S T) (r : Rep K H T u x) : ∃ a dx fs, u = .ref a ∧ H a = some (.ins C dx fs) ∧ RepF K H T fs ds := by
  cases h with
  | v => cases r with | ins s h r => exact ⟨_, _, _, rfl, h, r⟩
  | c h => cases r; obtain ⟨dx, fs, h1, r⟩ := cl.ok _ _ (cl.at h); exact ⟨_, dx, fs, rfl, h1, r⟩
theorem ve_fld {ta : TE} {f : Str} (h : VE c ta ρ S fun x S1 => ∃ C fs e, IsI S1 x C fs ∧ Cls c.K C ∧ NoAttr c.K C f ∧ fs.lookup f = some e ∧ F e S1) : VE c (tFld c.K ta f) ρ S F := fun T σ H I Q k =>
  h T σ H I _ fun vx x S1 T1 H1 m1 c1 r1 ⟨C, fs, e, hi, hc, hn, hl, q⟩ => by
    obtain ⟨a, dx, fv, rfl, ha, r⟩ := hi.rd c1 r1
    obtain ⟨v, h1, h2⟩ := r.lookup hl
    exact ⟨a, C, dx, fv, v, rfl, ha, hc, hn, h1, k v e S1 T1 H1 m1 c1 h2 q⟩
theorem vx_fld {ta tv : TE} {f : Str} {nx bk ct : Rho → Sto → Prop} {rt : D → Sto → Prop} (h : VE c tv ρ S fun y S1 => VE c ta ρ S1 fun x S2 => ∃ l C fs, x = .ref l ∧ S2 l = some (.ins C fs) ∧ Cls c.K C ∧ NoAttr c.K C f ∧ fs.length < 1000 ∧ nx ρ (put S2 l (.ins C (putD f y fs)))) :
    VX c (sFld c.K ta tv f) ρ S ⟨nx, rt, bk, ct⟩ := fun T σ H I D b =>
  h T σ H I _ fun vy y S1 T1 H1 m1 c1 r1 h1 => h1 T1 σ H1 (I.mv m1 c1) _ fun vx x S2 T2 H2 m2 c2 r2 ⟨l, C, fs, e, hl, hc, hn, hz, q⟩ => by
    subst e
    cases r2
    obtain ⟨dx, fv, hx, rf⟩ := c2.ok _ _ (c2.at hl)
    have w := mv_wr (H := H2) (d := .ins C (putD f y fs)) (o := .ins C dx (putF f vy fv)) (c2.at hl)
    have cl' : Cells c.K (upd H2 l (.ins C dx (putF f vy fv))) (put S2 l (.ins C (putD f y fs))) (put T2 l (.ins C (putD f y fs))) := c2.wr (c2.at hl) (cell_i upd_same ((RepF.put (r1.mv m2) rf).mv w))
    exact ⟨l, C, dx, fv, rfl, hx, hc, hn, by rw [rf.length]; exact hz, b.nx σ ρ _ _ _ (m1.trans (m2.trans w)) (I.mv (m1.trans (m2.trans w)) cl') q⟩
theorem ve_mt {p : Pt} {E : L2.St → XK} {Y} {ta : TE} {t : TA} {C : Addr} {m : Str} {dvs : List V} {dds : List D} (x : XOk c ρ E Y) (hd : ∀ H T, RepL c.K H T dvs dds)
    (h : VE c ta ρ S fun y S1 => ∃ fs, IsI S1 y C fs ∧ fs.lookup m = none ∧ VA c t ρ S1 fun ds S2 => p (y :: (ds ++ dds)) S2 F Y) : VE c (tMethE C m (spOf c.K p) dvs E ta t) ρ S F := fun T σ H I Q k =>
  h T σ H I _ fun vy y S1 T1 H1 m1 c1 r1 ⟨fs, hi, hl, h1⟩ => by
    obtain ⟨a, dx, fv, rfl, ha, r⟩ := hi.rd c1 r1
    exact ⟨a, dx, fv, rfl, ha, r.lookup_none hl, h1 T1 σ H1 (I.mv m1 c1) _ fun vs ds S2 T2 H2 m2 c2 r2 h2 => ⟨y :: (ds ++ dds), S2, T2, F, Y, .cons (r1.mv m2) (r2.append (hd _ _)), c2, h2, fun v d S3 T3 H3 m3 c3 r3 q => k v d S3 T3 H3 (m1.trans (m2.trans m3)) c3 r3 q, x.ok (I.mv (m1.trans m2) c2)⟩⟩
/-- a new instance: by reference -/
theorem ve_mk {p : Pt} {E : L2.St → XK} {Y} {t : TA} {C : Addr} {dvs : List V} {dds : List D} (x : XOk c ρ E Y) (hd : ∀ H T, RepL c.K H T dvs dds)
    (h : VA c t ρ S fun ds S1 => ∀ y, S1 y = none → p (.ref y :: (ds ++ dds)) (put S1 y (.ins C [])) (fun d S2 => d = .non ∧ F (.ref y) S2) Y) : VE c (tMakeE C (spOf c.K p) dvs E t) ρ S F := fun T σ H I Q k =>
  h T σ H I _ fun vs ds S1 T1 H1 m1 c1 r1 h1 => fun y dx hy hdx ne => by
    have hy2 : upd H1 dx (.own y) y = none := by rw [upd_ne (Ne.symm ne)]; exact hy
    have n1 : Mv T1 H1 T1 (upd H1 dx (.own y)) := mv_new hdx
    have n2 := mv_newc (S := T1) (d := .ins C []) (o := .ins C dx []) hy2
    have cl := (c1.new (o := .own y) hdx).newc (d := .ins C []) (o := .ins C dx []) hy2 (cell_i upd_same .nil)
    refine ⟨.ref y :: (ds ++ dds), put S1 y (.ins C []), put T1 y (.ins C []), _, Y, .cons (.ref y) ((r1.mv (n1.trans n2)).append (hd _ _)), cl, h1 y (c1.freeS hy), fun v d S3 T3 H3 m3 c3 r3 ⟨ed, q⟩ => ?_, x.ok (I.mv (m1.trans (n1.trans n2)) cl)⟩
    subst ed
    cases r3
    exact ⟨rfl, k _ _ S3 T3 H3 (m1.trans (n1.trans (n2.trans m3))) c3 (.ref y) q⟩
end
end VS
namespace VS
open PySem L2 C8 PySem.Spec PyProof.Rows
/-! ### what is shown: repr, == of data -/
mutual
def pd : D → PyData
  | .non => .none
  | .bl b => .bool b
  | .int i => .int i
  | .str x => .str x
  | .rol xs => .list (pdL xs)
  | .lst xs => .list (pdL xs)
  | .tup xs => .tuple (pdL xs)
  | .dK kvs => .dict (pdK kvs)
  | _ => .none
def pdL : List D → List PyData
  | [] => []
  | x :: xs => pd x :: pdL xs
def pdK : List (Key × D) → List (PyData × PyData)
  | [] => []
  | (k, x) :: xs => ((match k with | .inl i => .int i | .inr z => .str z), pd x) :: pdK xs
end
mutual
def isP : D → Bool
  | .non => true
  | .bl _ => true
  | .int _ => true
  | .str _ => true
  | .lst xs => isPL xs
  | .tup xs => isPL xs
  | .dK kvs => isPK kvs
  | _ => false
def isPL : List D → Bool
  | [] => true
  | x :: xs => isP x && isPL xs
def isPK : List (Key × D) → Bool
  | [] => true
  | (_, x) :: xs => isP x && isPK xs
end
/-- sys.modules is one of the base's objects -/
def SysOk (base : Heap) : Prop := ∃ o, base.get? sysModules = some o
section
variable {X : Cx} {pins : List (Addr × Obj)} {σ : L2.St} {H : Hp} {s : Shared} {T : Sto}
theorem SysOk.ne (hs : SysOk X.base) (I : Inv X pins σ H s) {a : Addr} {o : HO} (h : H a = some o) : sysModules ≠ a := fun e => by
  obtain ⟨ob, hb⟩ := hs
  have q := (I.bs _ _ hb).2
  rw [e, h] at q
  cases q
mutual
/-- told apart from what is known by reference -/
theorem Rep.any {K : PySem.W.Frag} {H : Hp} {S : Sto} : ∀ {v : V} {d : D}, Rep K H S v d → Rep K H (fun _ => none) v d
  | _, _, .non => .non
  | _, _, .bl b => .bl b
  | _, _, .int i => .int i
  | _, _, .str x => .str x
  | _, _, .ty n => .ty n
  | _, _, .ref a => .ref a
  | _, _, .rol s h r => .rol rfl h (RepL.any r)
  | _, _, .rolK h r => .rolK h (RepL.any r)
  | _, _, .lst s h r => .lst rfl h (RepL.any r)
  | _, _, .tup s h r => .tup rfl h (RepL.any r)
  | _, _, .tupK h r => .tupK h (RepL.any r)
  | _, _, .dK s h r => .dK rfl h (RepK.any r)
  | _, _, .ins s h r => .ins rfl h (RepF.any r)
  | _, _, .xcp s h r => .xcp rfl h (RepF.any r)
  | _, _, .xv s h s2 h2 r => .xv rfl h rfl h2 (RepF.any r)
theorem RepL.any {K : PySem.W.Frag} {H : Hp} {S : Sto} : ∀ {vs : List V} {ds : List D}, RepL K H S vs ds → RepL K H (fun _ => none) vs ds
  | _, _, .nil => .nil
  | _, _, .cons h t => .cons (Rep.any h) (RepL.any t)
theorem RepK.any {K : PySem.W.Frag} {H : Hp} {S : Sto} : ∀ {vs : List (Key × V)} {ds : List (Key × D)}, RepK K H S vs ds → RepK K H (fun _ => none) vs ds
  | _, _, .nil => .nil
  | _, _, .cons h t => .cons (Rep.any h) (RepK.any t)
theorem RepF.any {K : PySem.W.Frag} {H : Hp} {S : Sto} : ∀ {vs : List (Str × V)} {ds : List (Str × D)}, RepF K H S vs ds → RepF K H (fun _ => none) vs ds
  | _, _, .nil => .nil
  | _, _, .cons h t => .cons (Rep.any h) (RepF.any t)
end
mutual
theorem Rep.reads (hs : SysOk X.base) (I : Inv X pins σ H s) : ∀ (d : D) (v : V) (u : Value), Rep X.K H T v d → isP d = true → L2.RelV v u → ∃ as, Reads s.heap u (pd d) as ∧ sysModules ∉ as
  | .non, _, _, h, _, r => by cases h; cases r; exact ⟨[], .none, by simp⟩
  | .bl b, _, _, h, _, r => by cases h; cases r; exact ⟨[], .bool b, by simp⟩
  | .int i, _, _, h, _, r => by cases h; obtain ⟨t, rfl⟩ := r; exact ⟨[], .int i t, by simp⟩
  | .str x, _, _, h, _, r => by cases h; obtain ⟨t, rfl⟩ := r; exact ⟨[], .str x t, by simp⟩
  | .lst ds, _, _, h, hp, r => by
    cases h with
    | lst st h rl =>
      cases r
      obtain ⟨its, rv, ⟨o, n, ho, hc, _, hd⟩, _⟩ := I.list (SqL.of h)
      obtain ⟨as, hr, hn⟩ := RepL.reads hs I ds _ its rl hp rv
      exact ⟨_, .list ho hc hd hr, by simp only [List.mem_cons, not_or]; exact ⟨hs.ne I h, hn⟩⟩
  | .tup ds, _, _, h, hp, r => by
    cases h with
    | tup st h rl =>
      cases r
      obtain ⟨its, rv, ⟨o, ho, hc, n, hd⟩, _⟩ := I.tuple (SqT.of h)
      obtain ⟨as, hr, hn⟩ := RepL.reads hs I ds _ its rl hp rv
      exact ⟨_, .tuple ho hc hd hr, hn⟩
    | tupK h rl =>
      cases r
      obtain ⟨its, rv, ⟨o, ho, hc, n, hd⟩, _⟩ := I.tuple (.inr h)
      obtain ⟨as, hr, hn⟩ := RepL.reads hs I ds _ its rl hp rv
      exact ⟨_, .tuple ho hc hd hr, hn⟩
  | .dK ds, _, _, h, hp, r => by
    cases h with
    | dK st h rk =>
      cases r
      obtain ⟨_, _, vs, kv, o, es, ep, ho, ex, hd, _, pr, _⟩ := h.ok I.hok
      obtain ⟨as, h1, h2, hn⟩ := RepK.reads hs I ds _ vs es.toList rk hp kv pr
      refine ⟨_, .dict ho ex.1 hd h1 h2, ?_⟩
      simp only [List.append_nil, List.mem_cons, List.mem_append, not_or]
      exact ⟨⟨h.elim (fun h => hs.ne I h) fun ⟨_, h⟩ => hs.ne I h, List.not_mem_nil⟩, hn⟩
  | .ty _, _, _, _, hp, _ => by cases hp
  | .ref _, _, _, _, hp, _ => by cases hp
  | .rol _, _, _, _, hp, _ => by cases hp
  | .hid, _, _, _, hp, _ => by cases hp
  | .ins _ _, _, _, _, hp, _ => by cases hp
  | .xcp _ _ _ _, _, _, _, hp, _ => by cases hp
  | .xv _ _, _, _, _, hp, _ => by cases hp
theorem RepL.reads (hs : SysOk X.base) (I : Inv X pins σ H s) : ∀ (ds : List D) (vs : List V) (us : List Value), RepL X.K H T vs ds → isPL ds = true → L2.Vals vs us → ∃ as, ReadsAll s.heap us (pdL ds) as ∧ sysModules ∉ as
  | [], _, _, h, _, r => by cases h; cases r; exact ⟨[], .nil, by simp⟩
  | d :: ds, _, _, h, hp, r => by
    have hp' : (isP d && isPL ds) = true := hp
    rw [Bool.and_eq_true] at hp'
    cases h with
    | cons h t =>
      cases r with
      | cons r1 r2 =>
        obtain ⟨as, q1, n1⟩ := Rep.reads hs I d _ _ h hp'.1 r1
        obtain ⟨bs, q2, n2⟩ := RepL.reads hs I ds _ _ t hp'.2 r2
        exact ⟨_, .cons q1 q2, by simp only [List.mem_append, not_or]; exact ⟨n1, n2⟩⟩
theorem RepK.reads (hs : SysOk X.base) (I : Inv X pins σ H s) : ∀ (ds : List (Key × D)) (vs : List (Key × V)) (us : List (Key × Value)) (es : List DictEntry), RepK X.K H T vs ds → isPK ds = true → KV vs us → Pairs (mixKind X.prog X.w) es us →
    ∃ as, ReadsAll s.heap (es.map (·.key)) ((pdK ds).map (·.1)) [] ∧ ReadsAll s.heap (es.map (·.val)) ((pdK ds).map (·.2)) as ∧ sysModules ∉ as
  | [], _, _, _, h, _, r, p => by cases h; cases r; cases p; exact ⟨[], .nil, .nil, by simp⟩
  | (k, d) :: ds, _, _, _, h, hp, r, p => by
    have hp' : (isP d && isPK ds) = true := hp
    rw [Bool.and_eq_true] at hp'
    cases h with
    | cons h t =>
      cases r with
      | cons r1 r2 =>
        cases p with
        | @cons e kv es kvs p1 p2 p3 =>
          obtain ⟨ek, er⟩ := r1
          obtain ⟨as, q1, n1⟩ := Rep.reads hs I d _ _ h hp'.1 er
          obtain ⟨bs, q2, q3, n2⟩ := RepK.reads hs I ds _ _ _ t hp'.2 r2 p3
          have kk : keyIs k e.key = true := by
            have ek' := ek
            dsimp only at ek'
            rw [ek']
            exact p1
          refine ⟨as ++ bs, ?_, ?_, by simp only [List.mem_append, not_or]; exact ⟨n1, n2⟩⟩
          · rcases keyIs_shape kk with ⟨i, t, e1, e2⟩ | ⟨x, t, e1, e2⟩
            · subst e1
              rw [List.map_cons, e2]
              exact ReadsAll.cons (as := []) (bs := []) (.int i t) q2
            · subst e1
              rw [List.map_cons, e2]
              exact ReadsAll.cons (as := []) (bs := []) (.str x t) q2
          · rw [List.map_cons, p2]
            exact ReadsAll.cons q1 q3
end
end
def rRepr (K : PySem.W.Frag) : CR1 := fun xs H Q => ∃ (v : V) (d : D) (T : Sto), xs = [v] ∧ Rep K H T v d ∧ isP d = true ∧ (pd d).showable = true ∧ (pd d).shown.length ≤ sizeLine ∧ (pd d).depth ≤ 50 ∧ Q (.str (pd d).shown) H
def rEqP (K : PySem.W.Frag) : R2 := fun x y H Q => ∃ (d e : D) (T : Sto), Rep K H T x d ∧ Rep K H T y e ∧ isP d = true ∧ isP e = true ∧ SeqAt.shaped (pd d) = true ∧ SeqAt.shaped (pd e) = true ∧ Q (.bl (PyData.eqv (pd d) (pd e))) H
def rNeP (K : PySem.W.Frag) : R2 := fun x y H Q => ∃ (d e : D) (T : Sto), Rep K H T x d ∧ Rep K H T y e ∧ isP d = true ∧ isP e = true ∧ SeqAt.shaped (pd d) = true ∧ SeqAt.shaped (pd e) = true ∧ Q (.bl (!PyData.eqv (pd d) (pd e))) H
section
variable {X : Cx} {k : Nat}
theorem repr_any {pins : List (Addr × Obj)} {σ : L2.St} {H : Hp} {s : Shared} {Q : VK} {u : Value} {d : PyData} {as : List Addr} (hgd : X.A.guards = some []) (hr : Room k X.A) (I : Inv X pins σ H s) (rd : Reads s.heap u d as) (hn : sysModules ∉ as)
    (sh : d.showable = true) (sz : d.shown.length ≤ sizeLine) (dp : d.depth ≤ 50) (q : Q (.str d.shown) H) : wpAny (model X.prog X.w) X.A (call (.builtin "repr") [u]) (EP X pins σ Q) X.xe s := by
  have hu : X.A.units + (d.depth + 1) < cLine := Nat.lt_of_le_of_lt (by omega) hr.units
  have whole : ∀ a, u = .ref a → wpAny (model X.prog X.w) X.A (call (.builtin "repr") [u]) (EP X pins σ Q) X.xe s := fun a e => by
    subst e
    exact repr_of_reads' rd sh (fun _ => hn) hgd hu (fun _ _ e => e) (fun h' u tk hk => ⟨.str d.shown, H, I.kept hk, ⟨_, rfl⟩, q⟩) sz
  cases rd with
  | none => exact PySem.P.repr_of_none ⟨.str (PyData.shown .none), H, I.tok _, ⟨_, rfl⟩, q⟩
  | bool b => exact PySem.P.repr_of_bool ⟨.str (PyData.shown (.bool b)), H, I.tok _, ⟨_, rfl⟩, q⟩
  | int i t => exact PySem.P.repr_of_int (of_decide_eq_true sh) ⟨.str (PyData.shown (.int i)), H, I.tok _, ⟨_, rfl⟩, q⟩
  | str x t => exact PySem.P.repr_of_str ⟨.str (PyData.shown (.str x)), H, I.tok _, ⟨_, rfl⟩, q⟩ sz
  | list h1 h2 h3 h4 => exact whole _ rfl
  | tuple h1 h2 h3 h4 => exact whole _ rfl
  | dict h1 h2 h3 h4 h5 => exact whole _ rfl
theorem c_repr (hgd : X.A.guards = some []) (hr : Room k X.A) (hs : SysOk X.base) : CallR X (.builtin "repr") (rRepr X.K) := by
  intro pins s σ H xs us Q I r h
  obtain ⟨v, d, T, rfl, rp, ip, sh, sz, dp, q⟩ := h
  obtain ⟨u, rfl, rv⟩ := vals1 r
  obtain ⟨as, rd, hn⟩ := Rep.reads hs I d v u rp ip rv
  exact repr_any hgd hr I rd hn sh sz dp q
theorem op_eqP (hr : Room k X.A) (hs : SysOk X.base) : OpR X (compareOp .Eq) (rEqP X.K) := by
  intro pins s σ H x y v u Q I rx ry h
  obtain ⟨d, e, T, r1, r2, i1, i2, s1, s2, q⟩ := h
  obtain ⟨as, h1, _⟩ := Rep.reads hs I d x v r1 i1 rx
  obtain ⟨bs, h2, _⟩ := Rep.reads hs I e y u r2 i2 ry
  exact SeqAt.compareEq_shaped h1 h2 s1 s2 hr.units ⟨.bl _, H, I, rfl, q⟩
theorem op_neP (hr : Room k X.A) (hs : SysOk X.base) : OpR X (compareOp .NotEq) (rNeP X.K) := by
  intro pins s σ H x y v u Q I rx ry h
  obtain ⟨d, e, T, r1, r2, i1, i2, s1, s2, q⟩ := h
  obtain ⟨as, h1, _⟩ := Rep.reads hs I d x v r1 i1 rx
  obtain ⟨bs, h2, _⟩ := Rep.reads hs I e y u r2 i2 ry
  exact SeqAt.compareNe_shaped h1 h2 s1 s2 hr.units ⟨.bl _, H, I, rfl, q⟩
end
section
variable {c : Ctx} {ρ : Rho} {S : Sto} {F : D → Sto → Prop}
/-- d, its cells read: what x is when all is known by value -/
inductive Vw (S : Sto) : D → D → Prop
  | v {d : D} : Vw S d d
  | c {l : Addr} {d : D} (h : S l = some d) (n : ¬ NoF d) : Vw S (.ref l) d
theorem Vw.rd {K : PySem.W.Frag} {H : Hp} {T : Sto} {x d : D} {u : V} (h : Vw S x d) (cl : Cells K H S T) (r : Rep K H T u x) : ∃ T', Mk T H T' H ∧ Rep K H T' u d := by
  cases h with
  | v => exact ⟨T, Mv.refl.toMk, r⟩
  | c h n => cases r; exact ⟨_, (mv_del (cl.nohid h n)).toMk, cl.rep (cl.at h) n⟩
theorem rc_repr {x d : D} (h : Vw S x d) (ip : isP d = true) (sh : (pd d).showable = true) (sz : (pd d).shown.length ≤ sizeLine) (dp : (pd d).depth ≤ 50) (q : F (.str (pd d).shown) S) : RC c (rRepr c.K) [x] S F := fun T us H cl r Q k => by
  cases r with
  | cons h1 t =>
    cases t
    obtain ⟨T', _, r'⟩ := h.rd cl h1
    exact ⟨_, d, T', rfl, r', ip, sh, sz, dp, k _ _ S T H Mv.refl cl (.str _) q⟩
theorem rv_eqP {x y d e : D} (h1 : Vw S x d) (h2 : Vw S y e) (i1 : isP d = true) (i2 : isP e = true) (s1 : SeqAt.shaped (pd d) = true) (s2 : SeqAt.shaped (pd e) = true) (q : F (.bl (PyData.eqv (pd d) (pd e))) S) : RV c (rEqP c.K) x y S F := fun T u w H cl r1 r2 Q k => by
  obtain ⟨T1, m1, q1⟩ := h1.rd cl r1
  obtain ⟨T2, m2, q2⟩ := h2.rd cl r2
  exact ⟨d, e, fun _ => none, q1.any, q2.any, i1, i2, s1, s2, k _ _ S T H Mv.refl cl (.bl _) q⟩
theorem rv_neP {x y d e : D} (h1 : Vw S x d) (h2 : Vw S y e) (i1 : isP d = true) (i2 : isP e = true) (s1 : SeqAt.shaped (pd d) = true) (s2 : SeqAt.shaped (pd e) = true) (q : F (.bl (!PyData.eqv (pd d) (pd e))) S) : RV c (rNeP c.K) x y S F := fun T u w H cl r1 r2 Q k => by
  obtain ⟨T1, m1, q1⟩ := h1.rd cl r1
  obtain ⟨T2, m2, q2⟩ := h2.rd cl r2
  exact ⟨d, e, fun _ => none, q1.any, q2.any, i1, i2, s1, s2, k _ _ S T H Mv.refl cl (.bl _) q⟩
end
/-! ### the law's own call -/
/-- the law's promise by value: told True, of any script -/
theorem law_val {P : Program} {w : World} {K : PySem.W.Frag} {mg mb : Str → Option Value} {CX : CXT} {k : Nat} {fa a : Addr} {fd : FuncData} {x : Str} {p : Pt} {s1 : Shared} {vs : List Value} {ns : List Int}
    (kin : K.In s1.heap) (hmg : s1.heap.Ns mainGlobals mg) (hmb : s1.heap.Ns builtinsNs mb) (boot : ∀ x : Str, x ≠ "__name__" → mb x = bootBuiltins x) (nolim : s1.heap.NoLimit) (sys : ∃ mm, s1.heap.Ns sysModules mm) (gens : s1.gens = #[])
    (ha : s1.heap.get? a = some { cls := .type "list", data := .seq vs.toArray }) (hi : IntsAre vs ns) (hl : ns.length ≤ sizeLine) (room : Room k callerA)
    (F : ∀ base : Heap, K.In base → base.Ns mainGlobals mg → SysOk base → FnG P w K mg base CX k fa fd [x] (spOf K p)) (bd : ∀ (s : Shared) (u : Value), BindsTo s fd ⟨[u], []⟩ [(x, u)])
    (hp : p [.rol (ns.map .int)] (fun _ => none) (fun d _ => d = .bl true) noY) (noexc : ∀ H e s', CX [] H s1 (fun _ _ _ => False) e s' → False) :
    codeAny (model P w) callerA (.call (.ref fa) ⟨[.ref a], []⟩) (fun r s' => r = .ok (.ret (.bool true)) ∧ OldK s1.heap s'.heap ∧ s'.os = s1.os ∧ AllBare s'.gens) s1 := by
  have iv := vals_ints hi
  -- whichever way the script is known: H tells it, and nothing else
  suffices go : ∀ H : Hp, (∀ b u, H b = some u → b = a ∧ u = .frz { cls := .type "list", data := .seq vs.toArray } (.lst (ns.map V.int))) → (H a ≠ none → K.lookup a = none) → Rep K H (fun _ => none) (.ref a) (.rol (ns.map .int)) →
      codeAny (model P w) callerA (.call (.ref fa) ⟨[.ref a], []⟩) (fun r s' => r = .ok (.ret (.bool true)) ∧ OldK s1.heap s'.heap ∧ s'.os = s1.os ∧ AllBare s'.gens) s1 by
    cases hk : K.lookup a with
    | none =>
      refine go (fun b => if b = a then some (.frz { cls := .type "list", data := .seq vs.toArray } (.lst (ns.map V.int))) else none) (fun b u z => ?_) (fun _ => hk) (.rol rfl (if_pos rfl) RepL.ofInts)
      by_cases e : b = a
      · have z' := (if_pos e).symm.trans z
        cases z'
        exact ⟨e, rfl⟩
      · have z' := (if_neg e).symm.trans z
        cases z'
    | some o =>
      have e := kin a o hk
      rw [ha] at e
      cases e
      exact go (fun _ => none) (fun b u z => by cases z) (fun z => absurd rfl z) (.rolK ⟨_, vs.toArray, _, hk, rfl, rfl, rfl, by simpa [hi.length] using hl, by simpa using iv⟩ RepL.ofInts)
  intro H only apart rep
  have kept : ∀ {b : Addr} {o : Obj}, s1.heap.get? b = some o → b ≠ a → (hidT s1.heap H).get? b = some o := fun {b o} e n => hidT_get e (by
    cases q : H b with
    | none => rfl
    | some u => exact absurd (only b u q).1 n)
  have nsk : ∀ {b : Addr} {m : Str → Option Value}, s1.heap.Ns b m → (hidT s1.heap H).Ns b m := fun {b m} ⟨o, es, ep, e, d, r⟩ => ⟨o, es, ep, kept e (fun z => by
    subst z
    rw [ha] at e
    have e2 := Option.some.inj e
    rw [← e2] at d
    cases d), d, r⟩
  have kinB : K.In (hidT s1.heap H) := fun b o e => hidT_get (kin b o e) (by
    cases q : H b with
    | none => rfl
    | some u =>
      have z := (only b u q).1
      subst z
      rw [apart (by rw [q]; simp)] at e
      cases e)
  have hok : HOk P w H s1.heap := fun b u z => by
    obtain ⟨e1, e2⟩ := only b u z
    subst e1 e2
    exact ⟨ha, by simpa using hl, vs, _, iv, ha⟩
  have sysB : SysOk (hidT s1.heap H) := by
    obtain ⟨mm, h⟩ := sys
    obtain ⟨o, _, _, e, _⟩ := nsk h
    exact ⟨o, e⟩
  have mod : Mod K mg (hidT s1.heap H) := ⟨kinB, nsk hmg, ⟨mb, nsk hmb, boot⟩, by obtain ⟨mc, h1, h2⟩ := nolim; exact ⟨mc, nsk h1, h2⟩⟩
  have en : Env0 P w K mg (hidT s1.heap H) callerA [] s1 H := ⟨rfl, mod, fun b o e => of_hidT e, Nat.le_of_eq (hidT_size _ _), trivial, fun b hb => absurd (show b ∈ ([] : List Addr) from hb) (by simp), hok, .of_eq gens⟩
  have cells : Cells K H (fun _ => none) (fun _ => none) := ⟨fun _ => .inl ⟨rfl, by simp⟩, fun _ _ z => by cases z⟩
  have told : spOf K p [.ref a] H (fun v _ => v = .bl true) (fun _ _ _ => False) := ⟨_, _, _, _, _, .cons rep .nil, cells, hp, fun v d S' T' H' _ _ r e => by subst e; cases r; rfl, fun _ _ _ _ _ _ _ _ _ z => z.elim⟩
  refine codeAny_mono ((F _ kinB (nsk hmg) sysB).run callerA rfl [] s1 H ⟨[.ref a], []⟩ [.ref a] [.ref a] _ _ room en (bd s1 (.ref a)) (.cons rfl .nil) told) fun r s' h => ?_
  cases r with
  | error e => exact (noexc H e s' h).elim
  | ok fl =>
    cases fl with
    | next => exact False.elim h
    | brk => exact False.elim h
    | cont => exact False.elim h
    | ret u =>
      obtain ⟨v, H', os, bare, un, hok', rv, q⟩ := h
      have q' : v = .bl true := q
      subst q'
      cases rv
      refine ⟨rfl, OldK.of_keep fun b o e => ?_, os, bare⟩
      cases z : H b with
      | none => exact un.keep b o e z (fun m => absurd (show b ∈ ([] : List Addr) from m) (by simp)) (by simp)
      | some u =>
        obtain ⟨e1, e2⟩ := only b u z
        subst e2
        have f1 := (hok b _ z).1
        have f2 := (hok' b _ (un.frzs b _ _ z)).1
        rw [e] at f1
        cases f1
        exact f2
/-- the goal that k_head leaves, from the law's promise by value -/
theorem walk_val {l : PySem.W.OpenLaw} {n k : Nat} {q : Program} {loose : List Str} {XP : (Str → Option Value) → Heap → Prop} {YP : World → Heap → Prop} {d : DefRec} {K : Params → PySem.W.Frag} {CX : World → CXT} {p : PySem.W.Frag → Pt} {x : Str}
    (hn : l.most = some n) (hn2 : n ≤ sizeLine) (hdf : d.params.defaults = []) (room : Room k callerA) (noimp : importsNone q = true) (hY : ∀ (w : World) (h : Heap), YP w h → (K w.params).In h)
    (F : ∀ (w : World) (mg : Str → Option Value) (fa : Addr) (h : Heap), (K w.params).In h → h.Ns mainGlobals mg → mg d.name = some (.ref fa) →
      ∃ fd : FuncData, (∀ (s : Shared) (u : Value), BindsTo s fd ⟨[u], []⟩ [(x, u)]) ∧ ∀ base : Heap, (K w.params).In base → base.Ns mainGlobals mg → SysOk base → FnG l.prog w (K w.params) mg base (CX w) k fa fd [x] (spOf (K w.params) (p (K w.params))))
    (hp : ∀ (K : PySem.W.Frag) (ns : List Int), ns.length ≤ n → p K [.rol (ns.map .int)] (fun _ => none) (fun d _ => d = .bl true) noY) (noexc : ∀ (w : World) (H : Hp) (s : Shared) (e : Value) (s' : Shared), CX w [] H s (fun _ _ _ => False) e s' → False) :
    PySem.W.WalkO q loose XP YP l.row.toRowW d [] (fun f vs => PySem.call f vs) :=
  Att.attach_call hn hdf fun w s₀ s₁ mg mb fa o pm cd doc a vs ns G Y ho hd hcd hmg hobj hints hlen hg => by
    obtain ⟨fd, hb, hF⟩ := F w mg fa _ (hY w _ Y) G.T.g hmg
    exact law_val (hY w _ Y) G.T.g G.T.b G.T.builtins G.T.nolimit (let ⟨mm, h, _⟩ := (G.T.seer noimp).mods; ⟨mm, h⟩) hg hobj hints (Nat.le_trans hlen hn2) room hF hb (hp _ ns hlen) fun H e s' => noexc w H s₁ e s'
end VS
namespace VS
open PySem L2 C8 PySem.Spec PyProof.Rows
/-! ### a def that may be called -/
structure Cf (P : Program) (w : World) (K : PySem.W.Frag) (mg : Str → Option Value) (base : Heap) (CX : CXT) (k : Nat) (x : Str) (st : Stmt) (dvs : List V) (ps : List Str) (p : Pt) (f : Addr) (fd : FuncData) : Prop where
  fn : FnG P w K mg base CX k f fd ps (spOf K p)
  df : Fd K x x st dvs f fd
  mg : mg x = some (.ref f)
  b : Binds K fd ps []
theorem Cf.kp {P : Program} {w : World} {K : PySem.W.Frag} {mg : Str → Option Value} {base : Heap} {CX : CXT} {k : Nat} {x : Str} {st : Stmt} {dvs : List V} {ps : List Str} {p : Pt} {f : Addr} {fd : FuncData} (c : Cf P w K mg base CX k x st dvs ps p f fd) : PySem.W.keepIn K (.ref f) = true := c.df.kp
theorem Cf.v {P : Program} {w : World} {K : PySem.W.Frag} {mg : Str → Option Value} {base : Heap} {CX : CXT} {k : Nat} {x : Str} {st : Stmt} {dvs : List V} {ps : List Str} {p : Pt} {f : Addr} {fd : FuncData} (_ : Cf P w K mg base CX k x st dvs ps p f fd) : Vals [] [] := .nil
/-- arguments by their places among the written ones -/
def pick {α : Type} (idx : List Nat) (us ws : List α) : List α := idx.filterMap fun i => (us ++ ws)[i]?
section
variable {c : Ctx} {ρ : Rho} {S : Sto} {F : D → Sto → Prop} {d : D}
/-! ### the branches of a test -/
theorem br {p A B : Prop} [Decidable p] (h1 : p → A) (h2 : ¬ p → B) : (decide p = true → A) ∧ (decide p = false → B) := ⟨fun h => h1 (of_decide_eq_true h), fun h => h2 (of_decide_eq_false h)⟩
theorem brN {p A B : Prop} [Decidable p] (h1 : ¬ p → A) (h2 : p → B) : ((!decide p) = true → A) ∧ ((!decide p) = false → B) := ⟨fun h => h1 (by simpa using h), fun h => h2 (by simpa using h)⟩
theorem brB {b : Bool} {A B : Prop} (h1 : b = false → A) (h2 : b = true → B) : ((!b) = true → A) ∧ ((!b) = false → B) := ⟨fun h => h1 (by simpa using h), fun h => h2 (by simpa using h)⟩
theorem brT {b : Bool} {A B : Prop} (h : b = true) (a : A) : (b = true → A) ∧ (b = false → B) := ⟨fun _ => a, fun z => (by rw [h] at z; cases z)⟩
theorem brF {b : Bool} {A B : Prop} (h : b = false) (a : B) : (b = true → A) ∧ (b = false → B) := ⟨fun z => (by rw [h] at z; cases z), fun _ => a⟩
theorem br2 {b : Bool} {A B : Prop} (h1 : b = true → A) (h2 : b = false → B) : (b = true → A) ∧ (b = false → B) := ⟨h1, h2⟩
/-- [e for x in xs], each by itself -/
theorem ve_lcM (f : D → D) {wi : TI} {g : TG} {tt : TT} {te : TE} {vs : List Nat}
    (h : VI c wi ρ S fun ds S1 => ds.length ≤ 100000 ∧ (∀ d ∈ ds, VGw c vs g d (wipeR ρ vs) S1 fun ρ3 S3 => VT c tt ρ3 S3 fun b S4 => b = true ∧ VE c te ρ3 S4 fun y S5 => y = f d ∧ S5 = S1) ∧ F (.lst (ds.map f)) S1) : VE c (tLc wi g tt te vs) ρ S F := by
  refine ve_lc (fun T σ H I R k => h T σ H I R fun J ds S1 T1 H1 m1 c1 w ⟨h1, h2, h3⟩ => k J ds S1 T1 H1 m1 c1 w ⟨h1, fun i acc S2 => acc = (ds.take i).map f ∧ S2 = S1, ⟨rfl, rfl⟩, ?_, ?_⟩)
  · rintro i d acc S2 hd ⟨e1, rfl⟩ hl T0 u0 σ0 H0 I0 r0 Q0 k0
    refine h2 d (List.mem_of_getElem? hd) T0 u0 σ0 H0 I0 r0 Q0 fun σ' ρ' S' T' H' hw m I' q => k0 σ' ρ' S' T' H' hw m I' ?_
    refine q.imp fun b S4 ⟨hb, hv⟩ => ?_
    subst hb
    refine ⟨fun _ => hv.imp fun y S5 ⟨e2, e3⟩ => ⟨?_, e3⟩, fun z => by cases z⟩
    rw [List.take_succ, hd, e1, e2, List.map_append] <;> rfl
  · rintro acc S2 ⟨e1, rfl⟩ _
    rw [List.take_length] at e1
    rw [e1]
    exact h3
theorem ex_bl {b : Bool} {G : Bool → Prop} (h : G b) : ∃ k, D.bl b = D.bl k ∧ G k := ⟨b, rfl, h⟩
theorem ex_ref {b : Addr} {G : Addr → Prop} (h : G b) : ∃ k, D.ref b = D.ref k ∧ G k := ⟨b, rfl, h⟩
theorem ex_str {b : Str} {G : Str → Prop} (h : G b) : ∃ k, D.str b = D.str k ∧ G k := ⟨b, rfl, h⟩
theorem ex_int {b : Int} {G : Int → Prop} (h : G b) : ∃ k, D.int b = D.int k ∧ G k := ⟨b, rfl, h⟩
theorem cpow {i j : Int} (h0 : 0 ≤ j) (h1 : j ≤ 1000000) (h2 : i.natAbs < 2 ^ 64) : CPow i j := ⟨h0, h1, h2⟩
theorem cmulW {i j : Int} (a : i.natAbs < 2 ^ 64) (b : j.natAbs < 2 ^ 64) : CMulW i j := wide_mul a b (by decide) (by decide) (by decide)
theorem cdivW {i j : Int} (a : 0 < j) (b : j < 2 ^ 128) : CDivW i j := wide_div (b := 128) a (by omega) (by decide) (by decide)
end
end VS
namespace VS
open PySem L2 C8 PySem.Spec PyProof.Rows
theorem szl : 1000000 ≤ sizeLine := by decide
/-! ### texts of plain signs -/
def Asc (n : Nat) (z : Str) : Prop := z.length ≤ n ∧ ∀ c ∈ z.cps.toList, c < 128
theorem str_len (z : Str) : z.cps.toList.length = z.length := Array.length_toList
theorem Asc.mono {n m : Nat} {z : Str} (h : Asc n z) (l : n ≤ m) : Asc m z := ⟨Nat.le_trans h.1 l, h.2⟩
theorem tl_add (x y : Str) : (x ++ y).cps.toList = x.cps.toList ++ y.cps.toList := TL.tl_append x y
theorem len_add (x y : Str) : (x ++ y).length = x.length + y.length := by
  rw [← str_len, ← str_len, ← str_len, tl_add, List.length_append]
theorem Asc.add {n m : Nat} {x y : Str} (h : Asc n x) (k : Asc m y) : Asc (n + m) (x ++ y) := by
  refine ⟨by rw [len_add]; exact Nat.add_le_add h.1 k.1, fun c hc => ?_⟩
  rw [tl_add] at hc
  exact (List.mem_append.mp hc).elim (h.2 c) (k.2 c)
theorem Asc.cut {n : Nat} {x : Str} (h : Asc n x) (lo hi : Option Int) : Asc n (cutS x lo hi) := by
  refine ⟨Nat.le_trans (cutS_length x lo hi) h.1, fun c hc => h.2 c ?_⟩
  have hc' : c ∈ (x.cps.toList.drop (HT.sIx x.length 0 lo)).take (HT.sIx x.length x.length hi - HT.sIx x.length 0 lo) := hc
  exact List.mem_of_mem_drop (List.mem_of_mem_take hc')
theorem tl_join0 (ys : List Str) : (Txt.join ("" : Str) ys).cps.toList = (ys.map fun y => y.cps.toList).flatten := by
  have e : (Txt.join ("" : Str) ys).cps.toList = TL.joinL (TL.tl ("" : Str)) (ys.map TL.tl) := (congrArg TL.tl (TL.join_eq ("" : Str) ys)).trans (TL.tl_join ("" : Str) ys)
  rw [e]
  have e0 : TL.tl ("" : Str) = [] := by decide +kernel
  rw [e0]
  have g : ∀ L : List (List Nat), TL.joinL [] L = L.flatten := by
    intro L
    induction L with
    | nil => rfl
    | cons p L ih =>
      cases L with
      | nil => simp [TL.joinL]
      | cons q r =>
        show p ++ ([] ++ TL.joinL [] (q :: r)) = _
        rw [ih]
        simp
  exact g _
theorem Asc.join0 {n : Nat} {ys : List Str} (h : ∀ y ∈ ys, Asc 1 y) (hl : ys.length ≤ n) : Asc n (Txt.join ("" : Str) ys) := by
  refine ⟨?_, fun c hc => ?_⟩
  · rw [← str_len, tl_join0, List.length_flatten, List.map_map]
    refine Nat.le_trans ?_ hl
    clear hl
    induction ys with
    | nil => exact Nat.le_refl _
    | cons y ys ih =>
      rw [List.map_cons, List.sum_cons, List.length_cons]
      have a := (h y (List.mem_cons_self ..)).1
      rw [← str_len] at a
      have b := ih fun z hz => h z (List.mem_cons_of_mem _ hz)
      show y.cps.toList.length + _ ≤ _
      omega
  · rw [tl_join0] at hc
    obtain ⟨l, hl1, hl2⟩ := List.mem_flatten.mp hc
    obtain ⟨y, hy, rfl⟩ := List.mem_map.mp hl1
    exact (h y hy).2 c hl2
theorem tl_numT (n : Nat) : (Str.ofString (toString ((n : Nat) : Int))).cps.toList = TL.numL n := TL.tl_num n
theorem Asc.num {i : Int} {k : Nat} (h0 : 0 ≤ i) (hk : 0 < k) (h : i < 10 ^ k) : Asc k (Str.ofString (toString i)) := by
  obtain ⟨n, rfl⟩ := Int.eq_ofNat_of_zero_le h0
  have hn : n < 10 ^ k := by
    have e : (((10 ^ k : Nat) : Nat) : Int) = (10 : Int) ^ k := by simp
    rw [← e] at h
    exact Int.ofNat_lt.mp h
  refine ⟨?_, fun c hc => ?_⟩
  · rw [← str_len, tl_numT]
    exact TL.numL_len hk hn
  · rw [tl_numT] at hc
    have := TL.numL_digits n c hc
    omega
/-- a written text -/
theorem Asc.lit {n : Nat} {z : Str} (h : (decide (z.length ≤ n) && z.cps.toList.all (· < 128)) = true) : Asc n z := by
  rw [Bool.and_eq_true, decide_eq_true_eq, List.all_eq_true] at h
  exact ⟨h.1, fun c hc => of_decide_eq_true (h.2 c hc)⟩
theorem Asc.at {n i : Nat} {z : Str} (h : Asc n z) (hi : i < z.length) : ∃ c, atI z.cps.toList (i : Int) = some c ∧ c < 128 := by
  rw [← str_len] at hi
  exact ⟨z.cps.toList[i], atI_nat (List.getElem?_eq_getElem hi), h.2 _ (List.getElem_mem hi)⟩
theorem log_lt {i : Int} {k : Nat} (h : i.natAbs < 2 ^ k) (hk : 0 < k) : i.natAbs.log2 < k := by
  by_cases z : i.natAbs = 0
  · rw [z]
    simpa using hk
  · exact (Nat.log2_lt z).mpr h
theorem rc_strI64 {c : Ctx} {S : Sto} {F : D → Sto → Prop} {i : Int} (h : i.natAbs < 2 ^ 64) (q : F (.str (Str.ofString (toString i))) S) : RC c rStrInt [.int i] S F := rc_strI (Nat.lt_trans (log_lt h (by decide)) (by decide)) q
end VS
namespace VS
open PySem L2 C8 PySem.Spec PyProof.Rows
/-! ### enumerate over a text -/
end VS
namespace VS
open PySem L2 C8 PySem.Spec PyProof.Rows PySem.W
/-! ### list(text) -/
def rListS : CR1 := fun xs H Q => ∃ x : Str, xs = [.str x] ∧ x.length ≤ sizeLine ∧ ∀ l, H l = none → Q (.ref l) (upd H l (.lst (x.cps.toList.map fun n => V.str ⟨#[n]⟩)))
theorem repL_signs {K : PySem.W.Frag} {H : Hp} {T : Sto} : ∀ L : List Nat, RepL K H T (L.map fun n => V.str ⟨#[n]⟩) (L.map fun n => D.str ⟨#[n]⟩)
  | [] => .nil
  | _ :: L => .cons (.str _) (repL_signs L)
section
variable {c : Ctx} {S : Sto} {F : D → Sto → Prop}
theorem rc_listS {x : Str} (hz : x.length ≤ sizeLine) (q : F (.lst (signsD x)) S) : RC c rListS [.str x] S F := fun T us H cl r Q k => by
  cases r with
  | cons h1 t =>
    cases t
    cases h1
    refine ⟨x, rfl, hz, fun l hl => ?_⟩
    have hx : Rep c.K (upd H l (.lst (x.cps.toList.map fun n => V.str ⟨#[n]⟩))) T (.ref l) (.lst (signsD x)) := by
      refine .lst (cl.free hl) upd_same ?_
      exact repL_signs _
    exact k _ _ S T _ (mv_new hl) (cl.new hl) hx q
end
end VS
namespace VS
open PySem L2 C8 PySem.Spec PyProof.Rows
def keyD : Key → D
  | .inl i => .int i
  | .inr x => .str x
theorem keyD_V {K : PySem.W.Frag} {H : Hp} {T : Sto} {k : Key} {v : V} (r : Rep K H T v (keyD k)) : v = kV k := by
  cases k with
  | inl i => cases r; rfl
  | inr x => cases r; rfl
theorem putK_fresh {kvs : List (Key × V)} {k : Key} {v : V} (h : k ∉ kvs.map Prod.fst) : putK kvs k v = kvs ++ [(k, v)] := by
  unfold putK
  rw [if_neg]
  intro z
  rw [List.any_eq_true] at z
  obtain ⟨p, hp, e⟩ := z
  exact h (List.mem_map.mpr ⟨p, hp, of_decide_eq_true e⟩)
theorem mergeK_new : ∀ {more kvs : List (Key × V)}, (kvs.map Prod.fst ++ more.map Prod.fst).Nodup → mergeK kvs more = kvs ++ more
  | [], kvs, _ => (List.append_nil kvs).symm
  | p :: more, kvs, h => by
    show mergeK (putK kvs p.1 p.2) more = _
    have h1 : p.1 ∉ kvs.map Prod.fst := fun z => by
      rw [List.map_cons, List.nodup_append] at h
      exact h.2.2 _ z _ (List.mem_cons_self ..) rfl
    rw [putK_fresh h1, mergeK_new, List.append_assoc]
    · rfl
    · rw [List.map_append, List.append_assoc]
      exact h
theorem repK_keys {K : PySem.W.Frag} {H : Hp} {T : Sto} : ∀ {vs : List (Key × V)} {ds : List (Key × D)}, RepK K H T vs ds → vs.map Prod.fst = ds.map Prod.fst
  | _, _, .nil => rfl
  | _, _, .cons _ t => by rw [List.map_cons, List.map_cons, repK_keys t]
def VPs (c : Ctx) (trs : List (TE × TE)) (ρ : Rho) (S : Sto) (F : List (Key × D) → Sto → Prop) : Prop := ∀ T σ H, In c σ H ρ S T → ∀ Q : List (V × V) → Hp → Prop,
  (∀ kvs es S' T' H', Mv T H T' H' → Cells c.K H' S' T' → RepK c.K H' T' kvs es → F es S' → Q (kvs.map fun kv => (kV kv.1, kv.2)) H') → tPairs trs σ H Q
section
variable {c : Ctx} {ρ : Rho} {S : Sto} {F : D → Sto → Prop} {d : D}
theorem vps_nil {G : List (Key × D) → Sto → Prop} (q : G [] S) : VPs c [] ρ S G := fun T σ H I Q k => k [] [] S T H Mv.refl I.cells .nil q
theorem vps_cons {tk tv : TE} {trs : List (TE × TE)} {G : List (Key × D) → Sto → Prop} (h : VE c tk ρ S fun x S1 => ∃ key, x = keyD key ∧ VE c tv ρ S1 fun y S2 => VPs c trs ρ S2 fun es S3 => G ((key, y) :: es) S3) : VPs c ((tk, tv) :: trs) ρ S G := fun T σ H I Q k =>
  h T σ H I _ fun vx x S1 T1 H1 m1 c1 r1 ⟨key, e, h1⟩ => h1 T1 σ H1 (I.mv m1 c1) _ fun vy y S2 T2 H2 m2 c2 r2 h2 => h2 T2 σ H2 (I.mv (m1.trans m2) c2) _ fun kvs es S3 T3 H3 m3 c3 r3 q => by
    subst e
    cases keyD_V r1
    exact k ((key, vy) :: kvs) ((key, y) :: es) S3 T3 H3 (m1.trans (m2.trans m3)) c3 (.cons (r2.mv m3) r3) q
/-- {k: v, ..}, by value -/
theorem ve_disp {trs : List (TE × TE)} (h : VPs c trs ρ S fun es S1 => es.length ≤ 15 ∧ (es.map Prod.fst).Nodup ∧ F (.dK es) S1) : VE c (tDisp trs) ρ S F := fun T σ H I Q k => fun p hp =>
  h (put T p .hid) σ (upd H p (.dK [])) (I.mv (mv_newc hp) (I.cells.newh hp)) _ fun kvs es S' T' H' m cl r ⟨h1, h2, q⟩ => by
    obtain ⟨hx, s⟩ := m.hid p _ put_same upd_same
    have hl : kvs.length = es.length := by
      have e := congrArg List.length (repK_keys r)
      simpa using e
    refine ⟨hx, kvs, rfl, by rw [hl]; exact h1, ?_⟩
    have em : mergeK [] kvs = kvs := by
      have e := mergeK_new (kvs := []) (more := kvs) (by rw [repK_keys r]; exact h2)
      exact e
    rw [em]
    have mm : Mv T H T' (upd H' p (.dK kvs)) := ((mv_newc (d := .hid) hp).trans m).hidw hp
    refine k _ (.dK es) S' (del T' p) _ (mm.unhid hp) ((cl.hidw s).unhid s) (.dK del_same (.inl upd_same) ((r.mk (mk_hid s)).mk (mk_show s))) q
end
end VS
namespace VS
open PySem L2 C8 PySem.Spec PyProof.Rows
/-! ### how long a shown thing is -/
structure Sh (d : D) (n k : Nat) : Prop where
  p : isP d = true
  s : (pd d).showable = true
  l : (pd d).shown.length ≤ n
  d : (pd d).depth ≤ k
structure ShL (xs : List D) (n k : Nat) : Prop where
  p : isPL xs = true
  s : PyData.showableAll (pdL xs) = true
  l : piled (PyData.shownAll (pdL xs)) ≤ n
  d : PyData.depthAll (pdL xs) ≤ k
theorem Sh.non : Sh .non 4 0 := ⟨rfl, rfl, (by decide +kernel), Nat.le_refl _⟩
theorem Sh.bl (b : Bool) : Sh (.bl b) 5 0 := ⟨rfl, rfl, (by cases b <;> decide +kernel), Nat.le_refl _⟩
theorem Sh.str {n : Nat} {z : Str} (h : Asc n z) : Sh (.str z) (10 * n + 2) 0 := ⟨rfl, rfl, (by
  have q := StrLaws.reprText_len z fun c hc => Nat.lt_of_lt_of_le (h.2 c hc) (by decide)
  have := h.1
  show (reprText z).length ≤ _
  omega), Nat.le_refl _⟩
theorem Sh.int {i : Int} {k : Nat} (h : i.natAbs < 2 ^ k) (hk : 0 < k) (hk2 : k ≤ 1920) : Sh (.int i) (k + 2) 0 := ⟨rfl, (by
  show decide (i.natAbs.log2 < 1920) = true
  exact decide_eq_true (Nat.lt_of_lt_of_le (log_lt h hk) hk2)), (by
  show (Str.ofString (toString i)).length ≤ k + 2
  have up : ∀ m : Nat, m < 2 ^ k → (TL.numL m).length ≤ k := fun m hm => TL.numL_len hk (Nat.lt_of_lt_of_le hm (Nat.pow_le_pow_left (by decide) k))
  cases i with
  | ofNat m =>
    rw [← str_len]
    have e : (Str.ofString (toString (Int.ofNat m))).cps.toList = TL.numL m := tl_numT m
    rw [e]
    have := up m h
    omega
  | negSucc m =>
    have e : toString (Int.negSucc m) = "-" ++ toString (m + 1) := rfl
    rw [e, ← str_len]
    have e2 : (Str.ofString ("-" ++ toString (m + 1))).cps.toList = 45 :: TL.numL (m + 1) := by
      have a : (Str.ofString ("-" ++ toString (m + 1))).cps.toList = ("-" ++ toString (m + 1)).toList.map Char.toNat := TL.tl_ofString _
      have b : TL.numL (m + 1) = (toString (m + 1)).toList.map Char.toNat := (tl_numT (m + 1)).symm.trans (TL.tl_ofString _)
      rw [a, b, String.toList_append, List.map_append]
      rfl
    rw [e2, List.length_cons]
    have := up (m + 1) h
    omega), Nat.le_refl _⟩
theorem ShL.nil : ShL [] 0 0 := ⟨rfl, rfl, Nat.le_refl _, Nat.le_refl _⟩
theorem ShL.cons {d : D} {ds : List D} {a b i j : Nat} (h : Sh d a i) (t : ShL ds b j) : ShL (d :: ds) (a + 2 + b) (max i j) := ⟨by
  show (isP d && isPL ds) = true
  rw [h.p, t.p]; rfl, by
  show ((pd d).showable && PyData.showableAll (pdL ds)) = true
  rw [h.s, t.s]; rfl, by
  show ((pd d).shown.length + 2) + piled (PyData.shownAll (pdL ds)) ≤ _
  have := h.l
  have := t.l
  omega, by
  show max (pd d).depth (PyData.depthAll (pdL ds)) ≤ _
  have := h.d
  have := t.d
  omega⟩
theorem Sh.mono {d : D} {n m k j : Nat} (h : Sh d n k) (a : n ≤ m) (b : k ≤ j) : Sh d m j := ⟨h.p, h.s, Nat.le_trans h.l a, Nat.le_trans h.d b⟩
theorem ShL.mono {d : List D} {n m k j : Nat} (h : ShL d n k) (a : n ≤ m) (b : k ≤ j) : ShL d m j := ⟨h.p, h.s, Nat.le_trans h.l a, Nat.le_trans h.d b⟩
theorem lit1 : ("[" : Str).length = 1 ∧ ("]" : Str).length = 1 ∧ ("(" : Str).length = 1 ∧ (")" : Str).length = 1 ∧ (",)" : Str).length = 2 ∧ ("{" : Str).length = 1 ∧ ("}" : Str).length = 1 ∧ (": " : Str).length = 2 := by decide +kernel
theorem listText_len : ∀ ts : List Str, (listText ts).length ≤ piled ts + 2
  | [] => by decide +kernel
  | t :: r => by
    have h := textFrom_length_pos r 1 (("[" : Str) ++ (if (0 : Nat) > 0 then ", " else "" : String) ++ t) (Nat.succ_pos 0)
    have e : ((("[" : Str) ++ (if (0 : Nat) > 0 then ", " else "" : String) ++ t)).length = 1 + t.length := by
      rw [len_add, len_add]; rfl
    have hX : (listText (t :: r)).length = (textFrom 0 "[" (t :: r)).length + 1 := by
      show (textFrom 0 "[" (t :: r) ++ "]").length = _
      rw [len_add]; rfl
    have hY : (textFrom 0 "[" (t :: r)).length = (textFrom 1 (("[" : Str) ++ (if (0 : Nat) > 0 then ", " else "" : String) ++ t) r).length := rfl
    rw [hX, hY, h, e, piled_cons]; omega
theorem join_len : ∀ ts : List Str, (Str.join ", " ts).length ≤ piled ts
  | [] => by decide +kernel
  | t :: r => by
    have := join_length_add (t :: r) (by simp)
    omega
theorem Sh.lst {xs : List D} {n k : Nat} (h : ShL xs n k) : Sh (.lst xs) (n + 2) (k + 1) := ⟨h.p, h.s, by
  show (listText (PyData.shownAll (pdL xs))).length ≤ _
  have := listText_len (PyData.shownAll (pdL xs))
  have := h.l
  omega, Nat.succ_le_succ h.d⟩
theorem Sh.tup {xs : List D} {n k : Nat} (h : ShL xs n k) : Sh (.tup xs) (n + 3) (k + 1) := ⟨h.p, h.s, by
  show (tupleText (PyData.shownAll (pdL xs))).length ≤ _
  have := join_len (PyData.shownAll (pdL xs))
  have := h.l
  have e := lit1
  unfold tupleText
  rw [len_add, len_add]
  split <;> omega, Nat.succ_le_succ h.d⟩
theorem rc_reprS {c : Ctx} {S : Sto} {F : D → Sto → Prop} {x d : D} {n k : Nat} (h : Vw S x d) (sh : Sh d n k) (hn : n ≤ 1000000) (hk : k ≤ 50) (q : F (.str (pd d).shown) S) : RC c (rRepr c.K) [x] S F :=
  rc_repr h sh.p sh.s (Nat.le_trans sh.l (Nat.le_trans hn szl)) (Nat.le_trans sh.d hk) q
end VS
namespace VS
open PySem L2 C8 PySem.Spec PyProof.Rows
theorem rngD_at {i : Nat} {d : D} {j : Int} (h : (rngD 0 j.toNat)[i]? = some d) : d = .int (i : Nat) ∧ (i : Int) < j := by
  have hi : i < j.toNat := by
    have := (List.getElem?_eq_some_iff.mp h).1
    unfold rngD at this
    simpa using this
  unfold rngD at h
  rw [List.getElem?_map, List.getElem?_range hi] at h
  cases h
  refine ⟨?_, by omega⟩
  show D.int (0 + (i : Int)) = D.int (i : Int)
  rw [Int.zero_add]
theorem mmB {a b l : Int} (h0 : 0 ≤ a) (h : a ≤ b) : 0 ≤ (if (if l < b then l else b) > a then (if l < b then l else b) else a) ∧ (if (if l < b then l else b) > a then (if l < b then l else b) else a) ≤ b := by
  split <;> (try split) <;> omega
/-- for k in range(max(a, min(b, len(script)))) : the cells of a law -/
theorem vi_cells {c : Ctx} {ρ : Rho} {S : Sto} {W : List D → Sto → Prop} {ns : List Int} {a b : Int} {i : Nat} (h0 : 0 ≤ a) (hab : a ≤ b) (hb : b < 1000) (hv : ρ[i]? = some (some (.rol (ns.map .int)))) (h : ∀ j : Int, 0 ≤ j → j ≤ b → W (rngD 0 j.toNat) S) :
    VI c (iRng1 (tCons (tCB rMax2 (tCons (tC (V.int a)) (tCons (tCB rMin2 (tCons (tC (V.int b)) (tCons (tCB (rLen c.K) (tCons (tVar i) tNil)) tNil))) tNil))) tNil)) ρ S W := by
  refine vi_rng1 (va_cons (ve_cb (va_cons (ve_int (va_cons (ve_cb (va_cons (ve_int (va_cons (ve_cb (va_cons (ve_var hv (va_nil (rc_lenQ (.l .r) (va_nil (rc_min2 (va_nil (rc_max2 (va_nil ?_)))))))))))))))))))
  have m := mmB (a := a) (b := b) (l := (((ns.map D.int).length : Nat) : Int)) h0 hab
  generalize (if (if (((ns.map D.int).length : Nat) : Int) < b then (((ns.map D.int).length : Nat) : Int) else b) > a then (if (((ns.map D.int).length : Nat) : Int) < b then (((ns.map D.int).length : Nat) : Int) else b) else a) = j at m ⊢
  exact ⟨j, rfl, by omega, h j m.1 m.2⟩
theorem ex_keyS {z : Str} {G : Key → Prop} (h : G (.inr z)) : ∃ k, D.str z = keyD k ∧ G k := ⟨.inr z, rfl, h⟩
theorem ex_keyI {z : Int} {G : Key → Prop} (h : G (.inl z)) : ∃ k, D.int z = keyD k ∧ G k := ⟨.inl z, rfl, h⟩
end VS
namespace VS
open PySem L2 C8 PySem.Spec PyProof.Rows
/-! ### words -/
def sp (w L : List Nat) : List (List Nat) := TL.spl [32] 0 w L
theorem sp_nil (w : List Nat) : sp w [] = [w] := TL.spl_nil _ _ _
theorem sp_hit (w L : List Nat) : sp w (32 :: L) = w :: sp [] L := TL.spl_hit rfl
theorem sp_miss {w L : List Nat} {c : Nat} (h : c ≠ 32) : sp w (c :: L) = sp (w ++ [c]) L := TL.spl_miss (by
  have e9 : TL.pre [32] (c :: L) = (([c] : List Nat) == [32]) := rfl
  rw [e9]
  simpa using h)
def W (z : Str) : List Str := Txt.split z " "
theorem W_tl (z : Str) : (W z).map (fun y => y.cps.toList) = sp [] z.cps.toList := by
  have e0 : TL.tl (" " : Str) = [32] := by decide +kernel
  have e := TL.split_spl z (" " : Str) (by rw [e0]; simp) (TL.kind_ok (by decide +kernel))
  rw [e0] at e
  exact e
theorem sp_sum : ∀ (L w : List Nat), ((sp w L).map fun p => p.length + 1).sum = L.length + 1 + w.length
  | [], w => by rw [sp_nil]; simp; omega
  | c :: L, w => by
    by_cases h : c = 32
    · subst h
      rw [sp_hit, List.map_cons, List.sum_cons, sp_sum L []]
      simp
      omega
    · rw [sp_miss h, sp_sum L (w ++ [c])]
      simp
      omega
theorem W_S (z : Str) : W z = (sp [] z.cps.toList).map SX.S := by
  refine TL.map_tl_inj ?_
  have e : (W z).map TL.tl = sp [] z.cps.toList := W_tl z
  rw [e, List.map_map]
  exact (List.map_id _).symm
theorem W_len (z : Str) : (W z).length ≤ z.length + 1 := by
  have e := sp_sum z.cps.toList []
  rw [W_S, List.length_map, ← str_len]
  have g : ∀ l : List (List Nat), l.length ≤ (l.map fun p => p.length + 1).sum := fun l => by
    induction l with
    | nil => simp
    | cons a l ih => simp; omega
  have := g (sp [] z.cps.toList)
  rw [List.length_nil] at e
  omega
theorem joinL_mem (S : List Nat) (c : Nat) : ∀ ps : List (List Nat), c ∈ TL.joinL S ps → c ∈ S ∨ ∃ p ∈ ps, c ∈ p
  | [], h => by cases h
  | [p], h => .inr ⟨p, List.mem_cons_self .., h⟩
  | p :: q :: r, h => by
    have h' : c ∈ p ++ (S ++ TL.joinL S (q :: r)) := h
    rcases List.mem_append.mp h' with h1 | h1
    · exact .inr ⟨p, List.mem_cons_self .., h1⟩
    · rcases List.mem_append.mp h1 with h2 | h2
      · exact .inl h2
      · rcases joinL_mem S c (q :: r) h2 with h3 | ⟨p', h3, h4⟩
        · exact .inl h3
        · exact .inr ⟨p', List.mem_cons_of_mem _ h3, h4⟩
theorem joinL_len' (S : List Nat) {m : Nat} : ∀ ps : List (List Nat), (∀ p ∈ ps, p.length ≤ m) → (TL.joinL S ps).length ≤ ps.length * (m + S.length)
  | [], _ => by simp [TL.joinL]
  | [p], h => by
    have := h p (List.mem_cons_self ..)
    show p.length ≤ 1 * _
    omega
  | p :: q :: r, h => by
    have ih := joinL_len' S (q :: r) fun x hx => h x (List.mem_cons_of_mem _ hx)
    have := h p (List.mem_cons_self ..)
    show (p ++ (S ++ TL.joinL S (q :: r))).length ≤ _
    rw [List.length_append, List.length_append]
    have e : (p :: q :: r).length * (m + S.length) = (q :: r).length * (m + S.length) + (m + S.length) := by
      rw [List.length_cons, Nat.succ_mul]
    omega
theorem Asc.join {n m k : Nat} {x : Str} {ys : List Str} (hx : Asc k x) (h : ∀ y ∈ ys, Asc m y) (hl : ys.length ≤ n) : Asc (n * (m + k)) (Txt.join x ys) := by
  have e : (Txt.join x ys).cps.toList = TL.joinL (TL.tl x) (ys.map TL.tl) := (congrArg TL.tl (TL.join_eq x ys)).trans (TL.tl_join x ys)
  refine ⟨?_, fun c hc => ?_⟩
  · rw [← str_len, e]
    have q := joinL_len' (TL.tl x) (m := m) (ys.map TL.tl) fun p hp => by
      obtain ⟨y, hy, rfl⟩ := List.mem_map.mp hp
      exact Nat.le_trans (Nat.le_of_eq (str_len y)) (h y hy).1
    refine Nat.le_trans q ?_
    rw [List.length_map]
    have hk : (TL.tl x).length ≤ k := Nat.le_trans (Nat.le_of_eq (str_len x)) hx.1
    exact Nat.mul_le_mul hl (by omega)
  · rw [e] at hc
    rcases joinL_mem _ _ _ hc with q | ⟨p, hp, q⟩
    · exact hx.2 c q
    · obtain ⟨y, hy, rfl⟩ := List.mem_map.mp hp
      exact (h y hy).2 c q
/-! ### text * int, list * int, extend, split by value -/
def rMulS : R2 := fun x y H Q => ∃ z k, x = .str z ∧ y = .int k ∧ MulOk z k ∧ Q (.str (Txt.mul z k)) H
theorem op_mulS {X : Cx} : OpR X (binaryOp .Mult) rMulS := by
  intro pins s σ H x y v u Q I rx ry h
  obtain ⟨z, k, rfl, rfl, ok, q⟩ := h
  obtain ⟨t, rfl⟩ := rx
  obtain ⟨t', rfl⟩ := ry
  exact SB.mul ok fun t2 k2 => ⟨.str _, H, I.tok k2, ⟨_, rfl⟩, q⟩
section
variable {c : Ctx} {ρ : Rho} {S : Sto} {F : D → Sto → Prop} {d : D}
theorem rv_mulS {z : Str} {k : Int} (h : MulOk z k) (q : F (.str (Txt.mul z k)) S) : RV c rMulS (.str z) (.int k) S F := fun T u w H cl r1 r2 Q kk => by
  cases r1; cases r2; exact ⟨z, k, rfl, rfl, h, kk _ _ S T H Mv.refl cl (.str _) q⟩
theorem RepL.rep {K : PySem.W.Frag} {H : Hp} {T : Sto} {xs : List V} {ds : List D} (r : RepL K H T xs ds) : ∀ n : Nat, RepL K H T (List.replicate n xs).flatten (List.replicate n ds).flatten
  | 0 => .nil
  | n + 1 => by
    rw [List.replicate_succ, List.replicate_succ, List.flatten_cons, List.flatten_cons]
    exact r.append (RepL.rep r n)
theorem rm_splitV {a b : Str} (hb : (b.length == 0) = false) (hl : a.length + 2 ≤ sizeLine) (q : F (.lst ((Txt.split a b).map D.str)) S) : RM c rSplit (.str a) [.str b] S F := fun T u us H cl r1 r2 Q k => by
  cases r1
  cases r2 with
  | cons h1 t =>
    cases t
    cases h1
    exact ⟨a, b, rfl, rfl, hb, hl, fun p hp => k _ _ S T _ (mv_new hp) (cl.new hp) (.lst (cl.free hp) upd_same RepL.ofStrs) q⟩
theorem rm_extend {l : Addr} {ds es : List D} {x : D} (h : S l = some (.lst ds)) (h2 : IsA S x es) (hl : ds.length + es.length ≤ sizeLine) (q : F .non (put S l (.lst (ds ++ es)))) : RM c rExtend (.ref l) [x] S F := fun T u us H cl r1 r2 Q k => by
  cases r1
  cases r2 with
  | cons h1 t =>
    cases t
    obtain ⟨xs, hx, rx⟩ := cl.ok _ _ (cl.at h)
    obtain ⟨b, zs, rfl, s', r'⟩ := h2.rd cl h1
    have w := mv_wr (H := H) (d := .lst (ds ++ es)) (o := .lst (xs ++ zs)) (cl.at h)
    exact ⟨l, b, xs, zs, rfl, rfl, hx, s', by rw [rx.length, r'.length]; exact hl, k _ _ _ _ _ w (cl.wr (cl.at h) (cell_l upd_same ((rx.append r').mv w))) .non q⟩
end
/-- all that was there is there -/
def Ext (S S' : Sto) : Prop := ∀ q d, S q = some d → S' q = some d
theorem Ext.refl {S : Sto} : Ext S S := fun _ _ h => h
theorem Ext.trans {S S' S'' : Sto} (a : Ext S S') (b : Ext S' S'') : Ext S S'' := fun q d h => b q d (a q d h)
theorem Ext.put {S : Sto} {p : Addr} {d : D} (h : S p = none) : Ext S (put S p d) := fun q e hq => by
  rw [put_ne]
  · exact hq
  · intro z; subst z; rw [h] at hq; cases hq
theorem Ext.wr {S S' : Sto} {p : Addr} {d : D} (h : S p = none) (x : Ext S S') : Ext S (VS.put S' p d) := fun q e hq => by
  rw [put_ne]
  · exact x q e hq
  · intro z; subst z; rw [h] at hq; cases hq
theorem atI_mem {α : Type} {xs : List α} {i : Int} (h0 : 0 ≤ i) (h1 : i < xs.length) : ∃ x ∈ xs, atI xs i = some x := by
  obtain ⟨k, rfl⟩ := Int.eq_ofNat_of_zero_le h0
  have hk : k < xs.length := Int.ofNat_lt.mp h1
  exact ⟨xs[k], List.getElem_mem hk, atI_nat (List.getElem?_eq_getElem hk)⟩
/-- all that was there, but for what lies at p, is there -/
def Ex1 (p : Addr) (S S' : Sto) : Prop := ∀ q d, q ≠ p → S q = some d → S' q = some d
theorem Ex1.refl {p : Addr} {S : Sto} : Ex1 p S S := fun _ _ _ h => h
theorem Ex1.trans {p : Addr} {S S' S'' : Sto} (a : Ex1 p S S') (b : Ex1 p S' S'') : Ex1 p S S'' := fun q d h e => b q d h (a q d h e)
theorem Ext.ex1 {p : Addr} {S S' : Sto} (a : Ext S S') : Ex1 p S S' := fun q d _ e => a q d e
theorem Ex1.wr {S S' : Sto} {p l : Addr} {d : D} (h : S l = none) (x : Ex1 p S S') : Ex1 p S (VS.put S' l d) := fun q e n hq => by
  rw [put_ne]
  · exact x q e n hq
  · intro z; subst z; rw [h] at hq; cases hq
/-- within a comprehension's block: K named -/
theorem kC {X : Cx} {K : PySem.W.Frag} {v : Value} {r : PySem.W.Frag → CR1} (c : CallR X v (r X.K)) (h : X.K = K := by rfl) : CallR X v (r K) := h ▸ c
theorem kI {X : Cx} {K : PySem.W.Frag} {r : PySem.W.Frag → R2} (c : IxR X (r X.K)) (h : X.K = K := by rfl) : IxR X (r K) := h ▸ c
theorem kO {X : Cx} {K : PySem.W.Frag} {f : Value → Value → Sem Value} {r : PySem.W.Frag → R2} (c : OpR X f (r X.K)) (h : X.K = K := by rfl) : OpR X f (r K) := h ▸ c
theorem ShL.uncons {d : D} {ds : List D} {n k : Nat} (h : ShL (d :: ds) n k) : ∃ a b, Sh d a k ∧ ShL ds b k ∧ a + 2 + b ≤ n := by
  have hp : (isP d && isPL ds) = true := h.p
  have hs : ((pd d).showable && PyData.showableAll (pdL ds)) = true := h.s
  have hl : ((pd d).shown.length + 2) + piled (PyData.shownAll (pdL ds)) ≤ n := h.l
  have hd : max (pd d).depth (PyData.depthAll (pdL ds)) ≤ k := h.d
  rw [Bool.and_eq_true] at hp hs
  exact ⟨_, _, ⟨hp.1, hs.1, Nat.le_refl _, by omega⟩, ⟨hp.2, hs.2, Nat.le_refl _, by omega⟩, hl⟩
theorem ShL.append : ∀ {xs ys : List D} {a b k : Nat}, ShL xs a k → ShL ys b k → ShL (xs ++ ys) (a + b) k
  | [], ys, a, b, k, _, h => h.mono (by omega) (Nat.le_refl _)
  | x :: xs, ys, a, b, k, h, h2 => by
    obtain ⟨c, e, h3, h4, h5⟩ := h.uncons
    exact ((ShL.cons h3 (ShL.append h4 h2)).mono (by omega) (by omega))
end VS
namespace VS
open PySem L2 C8 PySem.Spec PyProof.Rows
/-! ### x in a tuple of data -/
def rInP (K : PySem.W.Frag) : R2 := fun x y H Q => ∃ d ds T, Rep K H T x d ∧ Rep K H T y (.tup ds) ∧ isP d = true ∧ isP (.tup ds) = true ∧ SeqAt.shaped (pd d) = true ∧ SeqAt.shaped (pd (.tup ds)) = true ∧ Q (.bl ((pdL ds).any fun z => PyData.eqv z (pd d))) H
section
variable {X : Cx} {k : Nat}
theorem op_inP (hr : Room k X.A) (hs : SysOk X.base) : OpR X (compareOp .In) (rInP X.K) := by
  intro pins s σ H x y v u Q I rx ry h
  obtain ⟨d, ds, T, r1, r2, i1, i2, s1, s2, q⟩ := h
  obtain ⟨as, h1, _⟩ := Rep.reads hs I d x v r1 i1 rx
  obtain ⟨bs, h2, _⟩ := Rep.reads hs I (.tup ds) y u r2 i2 ry
  have hu : X.A.units + 65 < cLine := by have := hr.un; omega
  exact SeqAt.in_tuple_reads h2 h1 (SeqAt.canLay_of_shaped s2) (SeqAt.canLay_of_shaped s1) (room_in_shaped s1 hu) ⟨.bl _, H, I, rfl, q⟩
end
section
variable {c : Ctx} {S : Sto} {F : D → Sto → Prop}
theorem rv_inP {d : D} {ds : List D} (i1 : isP d = true) (i2 : isP (.tup ds) = true) (s1 : SeqAt.shaped (pd d) = true) (s2 : SeqAt.shaped (pd (.tup ds)) = true) (q : F (.bl ((pdL ds).any fun z => PyData.eqv z (pd d))) S) : RV c (rInP c.K) d (.tup ds) S F := fun T u w H cl r1 r2 Q k =>
  ⟨d, ds, T, r1, r2, i1, i2, s1, s2, k _ _ S T H Mv.refl cl (.bl _) q⟩
end
theorem asc_ok {z : Str} (h : ∀ c ∈ z.cps.toList, c < 128) : (pd (.str z)).canLay0 = true := by
  show z.cps.all (· < 0x110000) = true
  rw [← Array.all_toList]
  exact List.all_eq_true.mpr fun c hc => decide_eq_true (Nat.lt_trans (h c hc) (by decide))
theorem kFld {X : Cx} {K : PySem.W.Frag} {e : Expr} {f : Str} {to : TE} (c : PE X e (tFld X.K to f)) (h : X.K = K := by rfl) : PE X e (tFld K to f) := h ▸ c
section
variable {c : Ctx} {ρ : Rho} {S : Sto} {F : D → Sto → Prop}
theorem ve_dnew (q : F (.dK []) S) : VE c tDNewK ρ S F := fun T σ H I Q k => fun p hp =>
  k _ (.dK []) S T _ (mv_new hp) (I.cells.new hp) (.dK (I.cells.free hp) (.inl upd_same) .nil) q
end
theorem kTup {X : Cx} {K : PySem.W.Frag} {e : Expr} {n : Nat} {t : TGs} (c : PG X e (gTup X.K n t)) (h : X.K = K := by rfl) : PG X e (gTup K n t) := h ▸ c
end VS
namespace VS
open PySem L2 PySem.Spec PyProof.Rows
/-! ### own exception classes over any exception of the language -/
/-- what the written part's chain bm of classes (made by nid) must have -/
structure BmG (bm : List Value) (nid : String) : Prop where
  fact : ∃ B ini bmB, ExcBaseFacts B nid ini bmB ∧ bm.contains (.type B) = true
  noA : bm.contains (.type "AttributeError") = false
  noN : bm.contains (.type "NameError") = false
  obj : bm.contains (.type "object") = true
  pass : ∀ self, refuseLoop self "__setattr__" bm = pure ()
theorem BmG.ne {bm : List Value} {nid : String} (b : BmG bm nid) : bm.isEmpty = false := by
  cases bm with
  | nil => exact absurd b.obj (by decide)
  | cons _ _ => rfl
theorem BmG.up {bm : List Value} {nid : String} {c : Addr} (b : BmG bm nid) : BmG (.ref c :: bm) nid := by
  have k : ∀ X : String, (Value.ref c :: bm).contains (.type X) = bm.contains (.type X) := fun X => by rw [List.contains_cons]; rfl
  obtain ⟨B, ini, bmB, F, h⟩ := b.fact
  exact ⟨⟨B, ini, bmB, F, (k B).trans h⟩, (k _).trans b.noA, (k _).trans b.noN, (k _).trans b.obj, fun self => by rw [refuseLoop_ref]; exact b.pass self⟩
theorem bmG_VE : BmG [.type "ValueError", .type "Exception", .type "BaseException", .type "object"] "ValueError.__new__" := ⟨⟨_, _, _, F.excBase_ValueError, by decide +kernel⟩, by decide +kernel, by decide +kernel, by decide +kernel, fun self => by kernel_rfl⟩
structure OexG (K : PySem.W.Frag) (C : Addr) : Prop where
  cls : ∃ nm q N bs bm sn sub ab col dd k0 k1 k2 k3 k5 nid, K.lookup C = some (excClassObj nm q C N bs bm true sn sub ab col dd k0 k1 k2 k3 k5 nid) ∧ BmG bm nid
  sa : PySem.W.findIn K (.ref C) "__setattr__" = some (some (.builtin "object.__setattr__"))
  exC : PySem.W.subIn K (.ref C) (.type "BaseException") = some true
  tyC : PySem.W.typeIn K (.ref C) = some (.type "type")
  kC : PySem.W.keepIn K (.ref C) = true
end VS
namespace PySem
namespace VSX
open VS HandSPX Builtin PySem.Calls
section
variable {M : Model} {prog : Program} {w : World} {A : Around} {E : Value → Shared → Prop} {R : Result → Shared → Prop} {h : Heap} {g : Array GenState} {d : Drawn} {t : Nat} {os : OsState}
variable {nm q : Str} {C N : Addr} {bs bm : List Value} {hdct : Bool} {sn : List Str} {sub : List Value} {ab : Bool} {col : Option Bool} {dd : Option Addr} {k0 k1 k2 k3 k5 : Option Value} {nid : String}
theorem upC {bm : List Value} {X : String} {v : Bool} {C : Addr} (e : bm.contains (.type X) = v) : (Value.ref C :: bm).contains (.type X) = v := by rw [List.contains_cons, e]; rfl
theorem new_ownG (b : BmG bm nid) {rest : List Value} (hC : h.get? C = some (excClassObj nm q C N bs bm hdct sn sub ab col dd k0 k1 k2 k3 k5 nid))
    (hq : R (.ok (.ret (.ref (h.objs.size + 1)))) ⟨(h.push (PySem.W.kdv_tup rest)).push (excO C h.objs.size), g, d, t, os⟩) (hrest : rest.length ≤ sizeLine) :
    codeAny (model prog w) A (.builtin nid ⟨.ref C :: rest, []⟩) R ⟨h, g, d, t, os⟩ := by
  obtain ⟨B, ini, bmB, F, hB⟩ := b.fact
  have hcB := upC (C := C) hB
  have hcA := upC (C := C) b.noA
  have hcN := upC (C := C) b.noN
  have hends := F.ends
  refine codeAny_builtinAt F.entry ?_
  unfold Builtin.«BaseException.__new__»
  refine wpAt_bind ?_
  show wpAt _ _ _ (stack >>= _) _ _ _
  refine wpAt_bind (wpAt_stack fun p below => wpAt_of_wpAny ?_)
  wp_walk
  refine wpAt_of_wpAny ?_
  rw [F.owner]
  repeat (first | with_reducible refine wpAny_madeHere_exc F.canon hC ?_ | with_reducible refine wpAny_loadPart_at hC ?_ | (with_reducible refine wpAny_isSubtype_exc hC ?_; first | rw [hcB] | rw [hcA] | rw [hcN]) | wp_step)
  show R _ _
  rw [Heap.size_push]
  exact hq
theorem type_callG (b : BmG bm nid) {rest : List Value} {fI : Addr} {Q : Fin → Shared → Prop}
    (hC : h.get? C = some (excClassObj nm q C N bs bm hdct sn sub ab col dd k0 k1 k2 k3 k5 nid))
    (hi : PySem.W.Looks (model prog w) h (typeLookup (.ref C) "__init__") (some (.ref fI))) (hb : ∀ self, PySem.W.Looks (model prog w) h (bindSpecial (.ref fI) self) (.ref fI, [self])) (hrest : rest.length ≤ sizeLine)
    (hq : codeAny (model prog w) A (.call (.ref fI) ⟨.ref (h.objs.size + 1) :: rest, []⟩)
      (fun r s' => match r with | .ok (.ret v) => v = .none ∧ Q (.done (.ret (.ref (h.objs.size + 1)))) s' | .ok _ => False | .error e => E e s')
      ⟨(h.push (PySem.W.kdv_tup rest)).push (excO C h.objs.size), g, d, t, os⟩) :
    wpAny (model prog w) A (Builtin.«type.__call__» ⟨.ref C :: rest, []⟩) Q E ⟨h, g, d, t, os⟩ := by
  obtain ⟨B, ini, bmB, F, hB⟩ := b.fact
  have hcB := upC (C := C) hB
  have hcA := upC (C := C) b.noA
  have hcN := upC (C := C) b.noN
  repeat (first | with_reducible refine wpAny_loadPart_at hC ?_ | with_reducible refine wpAny_madeBy_exc hC ?_ | wp_step)
  refine codeAny_call_builtin_code (Code.quiet_builtin _ F.quiet) ?_
  have hstar := F.noStar
  simp only [checkBuiltinCall, F.newKind, F.newSplit, F.newRow]
  repeat (first | refine wpAny_loadPart_at hC ?_ | (refine wpAny_isSubtype_exc hC ?_; rw [hcB]) | refine wpAny_staticBase_exc hC ?_ | refine wpAny_madeBy_exc hC ?_ | simp only [bne_self_eq_false, Bool.false_eq_true, if_false] | wp_step)
  refine new_ownG b hC ?_ hrest
  show wpAny _ _ _ _ _ _
  have k : ∀ b o, h.get? b = some o → ((h.push (PySem.W.kdv_tup rest)).push (excO C h.objs.size)).get? b = some o := fun b o e => Heap.get?_push_of_some _ (Heap.get?_push_of_some _ e)
  have hC₁ := k _ _ hC
  have hget : ((h.push (PySem.W.kdv_tup rest)).push (excO C h.objs.size)).get? (h.objs.size + 1) = some (excO C h.objs.size) := by heap_get
  have hcC : (Value.ref C :: bm).contains (.ref C) = true := by simp
  have i1 := hi.keeps k
  have b1 := (hb (.ref (h.objs.size + 1))).keeps k
  unfold isInstance
  repeat (first | with_reducible refine wpAny_loadPart_at hget ?_ | (with_reducible refine wpAny_isSubtype_exc hC₁ ?_; rw [hcC]) | wp_step)
  show wpAny _ _ (typeLookup (.ref C) _) _ _ _
  refine i1.at ?_
  refine wpAny_holding (wpAny_bind (b1.at ?_))
  refine wpAny_bind (wpAny_call (codeAny_mono hq fun r s' z => ?_))
  rcases r with e | (v | _ | _ | _) <;> first | exact z | exact z.elim | skip
  obtain ⟨rfl, z⟩ := z
  first
    | exact wpAny_pure (wpAny_pure z)
    | (wp_walk; exact z)
theorem call_ownG (b : BmG bm nid) {rest : List Value} {fI : Addr}
    (hC : h.get? C = some (excClassObj nm q C N bs bm hdct sn sub ab col dd k0 k1 k2 k3 k5 nid))
    (hi : PySem.W.Looks (model prog w) h (typeLookup (.ref C) "__init__") (some (.ref fI))) (hb : ∀ self, PySem.W.Looks (model prog w) h (bindSpecial (.ref fI) self) (.ref fI, [self])) (hrest : rest.length ≤ sizeLine)
    (hq : codeAny (model prog w) (A.under (.builtin "type.__call__" ⟨.ref C :: rest, []⟩)) (.call (.ref fI) ⟨.ref (h.objs.size + 1) :: rest, []⟩) (PySem.W.InitBack (h.objs.size + 1) R)
      ⟨(h.push (PySem.W.kdv_tup rest)).push (excO C h.objs.size), g, d, t, os⟩) :
    codeAny (model prog w) A (.call (.ref C) ⟨rest, []⟩) R ⟨h, g, d, t, os⟩ := by
  have f1 := tc_lookup
  have f2 := tc_bind (.ref C)
  have hTy : (⟨h, g, d, t, os⟩ : Shared).TypeIs (.ref C) "type" := ⟨_, hC, rfl⟩
  refine codeAny_of_tree ?_
  show wpAny _ _ (callAny (.ref C) _) _ _ _
  repeat (any_goals (first | assumption | with_reducible refine wpAny_loadPart_at hC ?_ | wp_step))
  refine ⟨rfl, ?_⟩
  refine codeAny_call_builtin_at (Code.quiet_builtin _ (by decide +kernel)) entry_typeCall (wpAny_check_type_call_sub hC (type_callG b hC hi hb hrest ?_))
  refine codeAny_mono hq fun r s' z => ?_
  rcases r with e | (v | _ | _ | _) <;> exact z
end
section
open Builtin.ObjectAttr
variable {prog : Program} {w : World} {A : Around} {E : Value → Shared → Prop} {R : Result → Shared → Prop} {hp : Heap} {g : Array GenState} {d : Drawn} {t : Nat} {os : OsState}
theorem exc_osaG {K : W.Frag} {name : Str} {tk : Tok} {v : Value} {x C : Addr} {fv : Array Value} {cd : ClassData} {nid : String} {bm : List Value}
    (X : K.In hp) (hx : hp.get? x = some { cls := .ref C, data := .fields fv }) (hcd : W.clsIn K C = some cd) (b : BmG bm nid) (hm : cd.mro = .ref C :: bm) (hh : cd.hasDict = true) (ha : W.findIn K (.ref C) name = some none)
    (hq : ∀ h' tk' dx, (∀ b o, b ≠ x → hp.get? b = some o → h'.get? b = some o) → hp.objs.size ≤ dx → dx ≠ x → h'.get? x = some { cls := .ref C, dict := some dx, data := .fields fv } →
      h'.Ns1 dx (fun y => if y = name then some v else none) → R (.ok (.ret .none)) ⟨h', g, d, tk', os⟩) :
    codeAny (model prog w) A (.call (.builtin "object.__setattr__") ⟨[.ref x, .str name tk, v], []⟩) R ⟨hp, g, d, t, os⟩ := by
  have I : W.InstAt hp x { cls := .ref C, data := .fields fv } C none := ⟨hx, rfl, rfl, trivial⟩
  have SF := F.store_object
  have ne : cd.mro.isEmpty = false := by rw [hm]; rfl
  have hob : cd.mro.contains (.type "object") = true := by rw [hm]; exact b.up.obj
  have hps : refuseLoop (.ref x) "__setattr__" cd.mro = pure () := by rw [hm]; exact b.up.pass _
  have hxs : x ≠ hp.objs.size := Nat.ne_of_lt (Heap.lt_size hx)
  have sub : W.Looks (model prog w) hp (isInstance (.ref x) (.type "object")) true := I.type.andThen (W.looks_mroIn X (by unfold W.mroIn; rw [hcd, Option.bind_some, if_neg (by rw [ne]; decide), hob]))
  refine codeAny_call_builtin SF.slot.plain SF.entry (@W.check_slot (model prog w) _ _ ⟨hp, g, d, t, os⟩ "object.__setattr__" "object" "__setattr__" (.ref x) [.str name tk, v] [] _ SF.kind SF.split sub (SF.args (.ref x) (.str name tk) v) ?_)
  have hmr : W.Looks (model prog w) hp (mroOf (.ref C)) cd.mro := (W.looks_clsIn X hcd).andThen .now
  have L3 : W.Looks (model prog w) hp (storeTaker? none) none := .now
  have hcls : W.Looks (model prog w) hp (classData C) cd := W.looks_clsIn X hcd
  rw [W.osa_eq, refuse_eq]
  refine wpAny_bind (wpAny_bind (I.type.at (wpAny_bind (hmr.at ?_))))
  rw [hps]
  refine wpAny_pure (wpAny_bind (I.type.at (wpAny_bind ((W.looks_findIn X ha).at (wpAny_bind (L3.at ?_))))))
  show wpAny _ _ (storeInOwnDict (.ref x) (.ref C) (.str name tk) name v false) _ _ _
  obtain ⟨nm, bs, mro, ns, qn, hd, sn, sb, ab, col, del⟩ := cd
  dsimp only at hh
  subst hh
  unfold storeInOwnDict ownDictForStores
  repeat (first | with_reducible refine store_in_new ?_ ?_ | with_reducible refine wpAny_loadPart_at hx ?_ | with_reducible refine hcls.at ?_ | wp_step)
  · exact ⟨_, #[], _, (Heap.get?_update_ne _ _ _ _ hxs.symm).trans (Heap.get?_push_at rfl rfl), rfl, fun e he => absurd he (by simp), fun _ => rfl⟩
  · intro h' tk' hn' hs
    have hx₁ : (hp.push { cls := .type "dict", data := .dict #[] }).get? x = some { cls := .ref C, data := .fields fv } := Heap.get?_push_of_some _ hx
    refine hq h' tk' hp.objs.size (fun b o hb ho => ?_) (Nat.le_refl _) hxs.symm ?_ hn'
    · exact (hs.2 b (Nat.ne_of_lt (Heap.lt_size ho))).trans ((Heap.get?_update_ne _ _ _ _ hb).trans (Heap.get?_push_of_some _ ho))
    · exact (hs.2 x hxs).trans (Heap.get?_update_self _ hx₁ rfl)
end
end VSX
end PySem
namespace VS
open PySem L2 PySem.Spec PyProof.Rows PySem.VSX
theorem ost_newG {X : Cx} {pins : List (Addr × Obj)} {σ : L2.St} {H : Hp} {s : Shared} {a C : Addr} {f : Str} {y : V} {u : Value} {Q : Unit → Shared → Prop} {E : Value → Shared → Prop} {A : Around} (T : OexG X.K C) (I : Inv X pins σ H s) (e : H a = some (exo a C none)) (hno : PySem.W.findIn X.K (.ref C) f = some none) (ry : RelV y u)
    (h : ∀ dx s', H dx = none → dx ≠ a → Inv X pins σ (upd (upd H dx (exd dx [(f, y)])) a (exo a C (some dx))) s' → Q () s') : wpAny (model X.prog X.w) A (setAttr (.ref a) f u) Q E s := by
  obtain ⟨nm, q, N, bs, bm, sn, sub, ab, col, dd, k0, k1, k2, k3, k5, nid, hC, hbm⟩ := T.cls
  have hcl : PySem.W.clsIn X.K C = some { name := nm, bases := bs, mro := .ref C :: bm, ns := N, qualname := q, hasDict := true, slotNames := sn, subclasses := sub, abstract := ab, collection := col, hasDel := false } := by unfold PySem.W.clsIn; rw [hC] <;> rfl
  obtain ⟨t1, ho⟩ := exo_at I.hok e
  obtain ⟨hp, g, d, t, os⟩ := s
  refine PySem.W.set_plain I.kIn (ox := { cls := .ref C, dict := none, data := .fields #[.ref t1, .none, .none, .none, .bool false, .none] }) (od := none) ⟨ho, rfl, rfl, trivial⟩ T.sa ?_
  refine exc_osaG I.kIn ho hcl hbm rfl rfl hno (fun h' tk' dx k dn dne hx hn => ?_)
  have hnd : H dx = none := I.hok.fresh dn
  have nd : ∀ {b : Addr} {o : Obj}, hp.get? b = some o → b ≠ dx := fun {b o} q => Nat.ne_of_lt (Nat.lt_of_lt_of_le (Heap.lt_size q) dn)
  have na : ∀ {b : Addr}, H b = none → b ≠ a := fun {b} n z => by
    rw [z, e] at n
    cases n
  have Un1 : Un X.fs [] H (upd (upd H dx (exd dx [(f, y)])) a (exo a C (some dx))) hp h' := {
    keep := fun b o q n _ _ => k b o (na n) q
    slot := fun b o q n _ _ => ⟨o.slots, k b o (na n) q⟩
    free := fun b o q n _ => by rw [upd_ne (na n), upd_ne (nd q)]; exact n
    there := fun b o q _ => by
      by_cases hb : b = a
      · exact ⟨_, by rw [hb]; exact hx⟩
      · exact ⟨o, k b o hb q⟩
    tups := fun b xs q => by rw [upd_ne (at_ne e q exo_tup), upd_ne (ne_of_none q hnd)]; exact q
    frzs := fun b o v q => by rw [upd_ne (at_ne e q exo_frz), upd_ne (ne_of_none q hnd)]; exact q
    tbls := fun b ps q => ⟨#[], by rw [upd_ne (at_ne e q exo_tbl), upd_ne (ne_of_none q hnd), q]; simp⟩ }
  refine h dx _ hnd dne (I.un (t' := tk') Un1 fun b o q => ?_)
  by_cases hb : b = a
  · subst hb
    rw [upd_same] at q
    cases q
    exact exo_ok hx
  · rw [upd_ne hb] at q
    by_cases hd : b = dx
    · subst hd
      rw [upd_same] at q
      cases q
      exact exd_ok hn (relO_put (fs := []) ry fun g => True.intro)
    · rw [upd_ne hd] at q
      exact (I.hok b o q).stay (fun c v hc z => k c v (by
          rcases hc with hc | hc
          · rw [hc]
            exact hb
          · exact at_ne e hc exo_own) z)
        (fun c hc => by rw [upd_ne (at_ne e hc exo_own), upd_ne (ne_of_none hc hnd)]; exact hc) (fun c xs hc => by rw [upd_ne (at_ne e hc exo_tup), upd_ne (ne_of_none hc hnd)]; exact hc)
/-- self.f = e, the only field -/
def tOstG (K : PySem.W.Frag) (f : Str) (to te : TE) : TS := fun D σ H => te σ H fun y H1 => to σ H1 fun x H2 => ∃ a C : Addr, x = .ref a ∧ OexG K C ∧ PySem.W.findIn K (.ref C) f = some none ∧
  H2 a = some (exo a C none) ∧ ∀ dx, H2 dx = none → dx ≠ a → D.nx σ (upd (upd H2 dx (exd dx [(f, y)])) a (exo a C (some dx)))
section
variable {X : Cx} {o e : Expr} {es : List Expr} {to te : TE} {ta : TA} {f : Str} {p p' p1 p2 pos : Pos}
theorem ps_ostG (ho : PE X o to) (he : PE X e te) (hs : swapsWith e (some (.Attribute o f p')) pos.line X.env = pure false := by rfl) : PS X (.Assign [.Attribute o f p'] e pos) (tOstG X.K f to te) := by
  refine ⟨fun pins s σ H D I h => ?_⟩
  refine plainObj_wpAny_Assign_Attribute (thn (he.run pins s σ H _ I h) fun v s1 ⟨y, H1, I1, r1, q1⟩ => thn (ho.run pins s1 σ H1 _ I1 q1) fun u s2 ⟨x, H2, I2, r2, a, C, ex, T, hno, ea, q⟩ => ?_) hs
  subst ex
  obtain rfl : u = Value.ref a := r2
  exact ost_newG T I2 ea hno r1 fun dx s' n ne J => ⟨σ, _, J, q dx n ne⟩
theorem pmk_oexG {CX : CXT} {x : Str} {C fI : Addr} {k : Nat} {fd : FuncData} {ps : List Str} {sp : Sp} {ds : List Value} {dvs : List V} (T : OexG X.K C) (iC : PySem.W.findIn X.K (.ref C) "__init__" = some (some (.ref fI))) (tI : PySem.W.typeIn X.K (.ref fI) = some (.type "function"))
    (F1 : FnOk X.prog X.w X.K X.mg X.base CX k fI fd ps sp) (hr : Room (k + 1) X.A) (hb : Binds X.K fd ps ds) (hd : Vals dvs ds) (hx : Passes CX X (fun _ _ _ => False)) (hg : Gl X x) (hm : X.mg x = some (.ref C)) (ha : PA X (e :: es) ta)
    (hdb : (x == ("__debug__" : Str)) = false := by decide) (he : starEach (e :: es) X.env = (false, eval e X.env) :: starEach es X.env := by rfl) (hpl : (backTo pos (starEach es X.env)).any (·.1) = false := by rfl) :
    PMk X (.Call (.Name x p) (e :: es) [] pos) (tMkO C sp dvs ta) := by
  intro pins s σ H Q I h
  obtain ⟨nm, q, N, bs, bm, sn, sub, ab, col, dd, k0, k1, k2, k3, k5, nid, hC, hbm⟩ := T.cls
  refine wpAny_Call_Name_kw (ld_glob I hg hm ?_ hdb)
  refine PySem.W.callWith_K (h₀ := X.base) I.ok.mod.kin T.kC (thn (ha.run pos pins s σ H _ I h) fun us s1 ⟨vs, H1, I1, r1, hz, q1⟩ => ⟨I1.kIn, ?_⟩) he hpl
  show wpAny _ _ (call (.ref C) us) _ _ _
  obtain ⟨hp, g, dr, tk, os⟩ := s1
  have hsz : hp.objs.size ≤ hp.objs.size + 1 := Nat.le_succ _
  have hn : H1 (hp.objs.size + 1) = none := I1.hok.fresh hsz
  have hq := q1 (hp.objs.size + 1) hn
  have kk : ∀ b o, hp.get? b = some o → ((hp.push (PySem.W.kdv_tup us)).push (PySem.HandSPX.excO C hp.objs.size)).get? b = some o := fun b o e => Heap.get?_push_of_some _ (Heap.get?_push_of_some _ e)
  have hget : ((hp.push (PySem.W.kdv_tup us)).push (PySem.HandSPX.excO C hp.objs.size)).get? (hp.objs.size + 1) = some (PySem.HandSPX.excO C hp.objs.size) := by heap_get
  have I2 : Inv X pins σ (upd H1 (hp.objs.size + 1) (exo (hp.objs.size + 1) C none)) ⟨(hp.push (PySem.W.kdv_tup us)).push (PySem.HandSPX.excO C hp.objs.size), g, dr, tk, os⟩ :=
    I1.laid (t' := tk) (a := hp.objs.size + 1) (o := exo (hp.objs.size + 1) C none) (h' := (hp.push (PySem.W.kdv_tup us)).push (PySem.HandSPX.excO C hp.objs.size)) kk hsz (exo_ok hget)
  have r2 : Vals (V.ref (hp.objs.size + 1) :: (vs ++ dvs)) (Value.ref (hp.objs.size + 1) :: (us ++ ds)) := .cons rfl (r1.append hd)
  have hl : (Value.ref (hp.objs.size + 1) :: us ++ ds).length = ps.length := by
    have e := r2.length
    rw [F1.len _ _ _ _ hq] at e
    exact e.symm
  have hus : us.length ≤ sizeLine := by
    rw [← Paired.length r1, sizeLine_eq]
    omega
  refine wpAny_call (call_ownG hbm (I1.kIn _ _ hC) (PySem.W.looks_findIn I1.kIn iC) (fun self => PySem.W.bind_fn I1.kIn self tI) hus
    (codeAny_mono (F1.run _ X.stack _ _ ⟨Value.ref (hp.objs.size + 1) :: us, []⟩ (Value.ref (hp.objs.size + 1) :: (us ++ ds)) _ _ (fun _ _ _ => False) (hr.make C us []) (I2.env0.make C us []) (hb _ (Value.ref (hp.objs.size + 1) :: us) I2.kIn hl) r2 hq) fun r s' hq' => ?_))
  cases r with
  | error er => exact hx pins σ _ _ er s' I2 hq'
  | ok fl =>
    cases fl with
    | ret u =>
      obtain ⟨v, H2, os2, bare2, un2, hok2, rv, ev, d, fs, ea, ed, hd1, q2⟩ := hq'
      subst ev
      obtain ⟨h2, g2, d2, t2, os'⟩ := s'
      exact ⟨rv, mk_end (raises_own T.exC T.tyC) I1 hsz kk un2 hok2 os2 bare2 ea ed hd1 q2⟩
    | next => exact False.elim hq'
    | brk => exact False.elim hq'
    | cont => exact False.elim hq'
end
end VS
namespace VS
open PySem L2 PySem.Spec PyProof.Rows PySem.VSX
/-! ### an own exception of one field: its class, its making, raise -/
/-- what __init__ keeps: self.f = v -/
def spXi (C : Addr) (f : Str) : Sp := fun vs H Q _ => ∃ (a : Addr) (v : V), vs = [.ref a, v] ∧ H a = some (exo a C none) ∧ ∀ dx, H dx = none → dx ≠ a → Q .non (upd (upd H dx (exd dx [(f, v)])) a (exo a C (some dx)))
/-- the class x, at C, of exceptions with the field f -/
structure Xc (P : Program) (w : World) (K : PySem.W.Frag) (mg : Str → Option Value) (base : Heap) (x : Str) (C : Addr) (f : Str) : Prop where
  ox : OexG K C
  xf : XfC K C
  no : PySem.W.findIn K (.ref C) f = some none
  at_ : mg x = some (.ref C)
  fn : ∃ (fI : Addr) (fd : FuncData) (ps : List Str), PySem.W.findIn K (.ref C) "__init__" = some (some (.ref fI)) ∧ PySem.W.typeIn K (.ref fI) = some (.type "function") ∧ FnOk P w K mg base C8.CX0 1 fI fd ps (spXi C f) ∧ Binds K fd ps []
section
variable {P : Program} {w : World} {K : PySem.W.Frag} {mg : Str → Option Value} {base : Heap}
theorem xinit_ok {qual : Str} {st : Stmt} {C fI : Addr} {fd : FuncData} {f : Str} {N ps : List Str} (F : Fd K "__init__" qual st [] fI fd) (Sc : FnScope N ps (defScope st)) (h2 : ps.length = 2) (ox : OexG K C) (no : PySem.W.findIn K (.ref C) f = some none)
    (body : ∀ (cdv : Value) (A : Around) (outer : List Env) (s : Shared) (H : Hp) (E : XK), PSs (cxOf C8.CX0 P w K mg base N qual (defScope st) fI cdv A outer s H E) (defBody st) (tOstG K f (tVar 0) (tVar 1))) :
    FnOk P w K mg base C8.CX0 1 fI fd ps (spXi C f) :=
  FunD.ok F Sc (fun vs H Q E h => by obtain ⟨a, v, rfl, _⟩ := h; exact h2.symm) fun cdv A outer s H vs Q E _ h => by
    obtain ⟨a, v, rfl, ha, q⟩ := h
    exact ⟨_, body cdv A outer s H E, v, rfl, .ref a, rfl, a, C, rfl, ox, no, ha, fun dx hn ne => q dx hn ne⟩
end
def tRz (C : Addr) (f : Str) (te : TE) (W : L2.St → XK) : TS := fun _ σ H => tMkO C (spXi C f) [] (tCons te tNil) σ H fun cls d H' => W σ cls d H'
theorem ps_rz {X : Cx} {x : Str} {C : Addr} {f : Str} {e : Expr} {te : TE} {W : L2.St → XK} {p pos pos' : Pos} (tk : Takes X (fun cls d σ H => W σ cls d H)) (xc : Xc X.prog X.w X.K X.mg X.base x C f) (hr : Room 2 X.A) (hg : Gl X x) (he : PE X e te)
    (hc : X.calm = true := by rfl) (hdb : (x == ("__debug__" : Str)) = false := by decide) (hst : starEach [e] X.env = (false, eval e X.env) :: starEach [] X.env := by rfl) : PS X (.Raise (some (.Call (.Name x p) [e] [] pos)) none pos') (tRz C f te W) := by
  obtain ⟨fI, fd, ps, iC, tI, F1, b⟩ := xc.fn
  exact ps_raise hc tk (pmk_oexG xc.ox iC tI F1 hr b .nil C8.pass0 hg xc.at_ (pa_cons he pa_nil hst) hdb hst)
section
variable {c : Ctx} {ρ : Rho} {S : Sto} {P : Po}
theorem xd_heap {H1 : Hp} {a C dx : Addr} {f : Str} {v : V} (ha : H1 a = none) : upd (L2.del (upd (upd (upd H1 a (exo a C none)) dx (exd dx [(f, v)])) a (exo a C (some dx))) a) dx (.xd [(f, v)]) = upd H1 dx (.xd [(f, v)]) := by
  funext b
  by_cases z : b = dx
  · subst z; rw [upd_same, upd_same]
  · rw [upd_ne z, upd_ne z]
    by_cases y : b = a
    · subst y; rw [L2.del_same, ha]
    · rw [L2.del_ne y, upd_ne y, upd_ne z, upd_ne y]
theorem vx_raise {C : Addr} {f : Str} {te : TE} (h : VE c te ρ S fun x S1 => c.Y C [(f, x)] ρ S1) : VX c (tRz C f te c.E) ρ S P := fun T σ H I D b =>
  h T σ H I _ fun v x S1 T1 H1 m1 c1 r1 q => by
    refine ⟨(by decide : 1 ≤ 1000), fun a na => ⟨a, v, rfl, upd_same, fun dx hdx ne => ⟨rfl, dx, [(f, v)], upd_same, ?_, ?_, ?_⟩⟩⟩
    · rw [upd_ne ne, upd_same]
    · rw [upd_ne ne] at hdx; exact hdx
    · have hd : H1 dx = none := by rw [upd_ne ne] at hdx; exact hdx
      rw [xd_heap na]
      have m2 := m1.trans (mv_new (o := .xd [(f, v)]) hd)
      have cl := c1.new (o := .xd [(f, v)]) hd
      exact I.exc σ ρ C (some dx) [(f, x)] S1 T1 _ m2 cl (I.mv m2 cl).sl ⟨dx, [(f, v)], rfl, c1.free hd, upd_same, .cons (r1.mv (mv_new hd)) .nil⟩ q
/-! ### e.f in an except suite -/
theorem ve_xf {a C : Addr} {d : Option Addr} {f : Str} {te : TE} {F : D → Sto → Prop} (h : VE c te ρ S fun x S1 => ∃ dd fs e, x = .xcp a dd C fs ∧ d = some dd ∧ fs.lookup f = some e ∧ F e S1) : VE c (tXf a (.ref C) d C f te) ρ S F := fun T σ H I Q k =>
  h T σ H I _ fun v x S1 T1 H1 m1 c1 r1 ⟨dd, fs, e, e1, e2, hl, q⟩ => by
    subst e1
    cases r1 with
    | xcp s hx r =>
      obtain ⟨v, h1, h2⟩ := r.lookup hl
      exact ⟨rfl, rfl, dd, _, v, e2, hx, h1, k v e S1 T1 H1 m1 c1 h2 q⟩
end
/-! ### try: several clauses, with names or without; what stands behind them is never looked at -/
structure Cla where
  c : Value
  i : Option Nat
  t : Addr → Value → Option Addr → TS
def inSl (i : Option Nat) (a : Addr) (σ : L2.St) : L2.St := match i with
  | none => σ
  | some i => σ.set i (some (.ref a))
def offSl (i : Option Nat) (σ : L2.St) : L2.St := match i with
  | none => σ
  | some i => σ.set i none
def offE (i : Option Nat) (D : Ends) : Ends := { nx := fun σ H => D.nx (offSl i σ) H, rt := D.rt, bk := fun σ H => D.bk (offSl i σ) H, ct := fun σ H => D.ct (offSl i σ) H }
def wCla (K : PySem.W.Frag) (D : Ends) : List Cla → WX
  | [] => fun _ _ _ _ => False
  | k :: r => fun cls d σ H => ∃ b, PySem.W.exmOne K cls k.c = some b ∧ (b = true → ∀ a, H a = none → k.t a cls d (offE k.i D) (inSl k.i a σ) H) ∧ (b = false → wCla K D r cls d σ H)
/-- the suite of a clause, whatever the exception -/
abbrev SuR (X : Cx) (ss : List Stmt) (t : Addr → Value → Option Addr → TS) : Prop :=
  ∀ (a : Addr) (oe : Obj) (cls : Value) (d : Option Addr) (pn : List (Addr × Obj)), Zc cls d oe → (∃ vs, oe.data = .fields vs) → PSs (X.suite a ((a, oe) :: pn)) ss (t a cls d)
inductive Clas (X : Cx) : List ExceptHandler → List Cla → Prop
  | rest {hds : List ExceptHandler} : Clas X hds []
  | plain {x : Str} {c : Value} {t : Addr → Value → Option Addr → TS} {b₀ : Stmt} {ss : List Stmt} {p1 p2 : Pos} {hds : List ExceptHandler} {l : List Cla} (hc : Names X x c) (su : SuR X (b₀ :: ss) t) (r : Clas X hds l) :
      Clas X (.ExceptHandler (some (.Name x p1)) none (b₀ :: ss) p2 :: hds) (⟨c, none, t⟩ :: l)
  | named {x n : Str} {c : Value} {i : Nat} {t : Addr → Value → Option Addr → TS} {b₀ : Stmt} {ss : List Stmt} {p1 p2 : Pos} {hds : List ExceptHandler} {l : List Cla} (hc : Names X x c) (hi : X.N[i]? = some n) (hl : X.env.kindOf n = some .local) (su : SuR X (b₀ :: ss) t) (r : Clas X hds l) :
      Clas X (.ExceptHandler (some (.Name x p1)) (some n) (b₀ :: ss) p2 :: hds) (⟨c, some i, t⟩ :: l)
section
variable {X : Cx} {pins : List (Addr × Obj)} {σ : L2.St} {H : Hp} {sI s' : Shared} {B h3 : Heap} {a : Addr} {cls : Value} {d : Option Addr} {D : Ends}
theorem clause_name {x : Str} {c : Value} {s : Shared} {pn : List (Addr × Obj)} {p : Pos} {Q E : Value → Shared → Prop} (hc : Names X x c) (I : Inv (X.suite a pn) [] σ H s) (q : Q c s) : wpAny (model X.prog X.w) (X.A.mark (some (.ref a))) (eval (.Name x p) X.env) Q E s := by
  rcases hc with ⟨hg, hdb, hm | ⟨hm, hv, hn⟩⟩
  · exact ld_glob (X := X.suite a pn) I hg hm q hdb
  · exact ld_blt (X := X.suite a pn) I hg hm hv q hn hdb
theorem clauses_run (hN : X.N.Nodup) (J : Inv X pins σ H sI) (nb : ∀ b o, sI.heap.get? b = some o → b ∉ frs X.stack → B.get? b = some o) (up : sI.heap.UpToSlots h3) (os : s'.os = sI.os) (ag : AllBare s'.gens)
    (fl : HandSPX.FlyingZ B (X.env :: X.outer) a (Zc cls d) h3) (na : H a = none) (nL : a ≠ X.env.locals) (nF : a ∉ X.fs) {hds : List ExceptHandler} {l : List Cla} (hk : Clas X hds l) :
    wCla X.K D l cls d σ H → wpAny (model X.prog X.w) X.A (handleBy (.ref a) X.env hds) (SP X pins D) X.xe { s' with heap := h3 } := by
  have ok := J.ok
  have J3 : Inv X pins σ H { s' with heap := h3 } := J.landed nb fl.1 up os ag
  obtain ⟨oe, vs, he, hz, hd⟩ := fl.there
  have S3 := J3.suite he hd na nL nF
  have LT : PySem.W.Looks (model X.prog X.w) h3 (typeOf (.ref a)) cls := fun A Q E s k q => wpAny_typeOf_ref (k _ _ he) (by rw [hz.1]; exact q)
  induction hk with
  | rest => exact fun w => w.elim
  | plain hc su r ih =>
    rintro ⟨b, e, yes, no⟩
    refine wpAny_handleBy_cons (codeAny_handlers_test (clause_name hc S3 ((PySem.W.exm_one J3.kIn LT e).here ?_))) nofun
    cases b with
    | false => exact ih (no rfl)
    | true =>
      refine codeAny_handlers_suite (HandSPX.lands_againZ fl fun h4 fl4 up4 => ?_)
      have J4 : Inv X pins σ H { s' with heap := h4 } := J.landed nb fl4.1 (up.trans up4) os ag
      obtain ⟨oe4, vs4, he4, hz4, hd4⟩ := fl4.there
      refine wpAny_mono ((su a oe4 cls d (X.pn ++ pins) hz4 ⟨_, hd4⟩).run [] _ _ H _ (J4.suite he4 hd4 na nL nF) (yes rfl a na)) (fun f s6 q => ?_) fun _ _ z => z.elim
      cases f with
      | ret u => obtain ⟨v6, σ6, H6, S6, r6, q6⟩ := q; exact ⟨_, _, _, S6.unsuite ok, r6, q6⟩
      | next => obtain ⟨σ6, H6, S6, q6⟩ := q; exact ⟨_, _, S6.unsuite ok, q6⟩
      | brk => obtain ⟨σ6, H6, S6, q6⟩ := q; exact ⟨_, _, S6.unsuite ok, q6⟩
      | cont => obtain ⟨σ6, H6, S6, q6⟩ := q; exact ⟨_, _, S6.unsuite ok, q6⟩
  | @named x n c i t b₀ ss p1 p2 hds l hc hi hl su r ih =>
    rintro ⟨b, e, yes, no⟩
    refine wpAny_handleBy_cons (codeAny_handlers_test (clause_name hc S3 ((PySem.W.exm_one J3.kIn LT e).here ?_))) nofun
    cases b with
    | false => exact ih (no rfl)
    | true =>
      refine codeAny_handlers_suite_as (HandSPX.lands_againZ fl fun h4 fl4 up4 => ?_)
      have J4 : Inv X pins σ H { s' with heap := h4 } := J.landed nb fl4.1 (up.trans up4) os ag
      obtain ⟨oe4, vs4, he4, hz4, hd4⟩ := fl4.there
      have S4 := J4.suite he4 hd4 na nL nF
      refine store_ok (X := X.suite a ((a, oe4) :: (X.pn ++ pins))) (v := .ref a) S4 hN hi (.inl hl) rfl (fun s5 S5 => ?_) (.inr hl)
      refine wpAny_mono ((su a oe4 cls d (X.pn ++ pins) hz4 ⟨_, hd4⟩).run [] s5 _ H _ S5 (yes rfl a na)) (fun f s6 q => ?_) fun _ _ z => z.elim
      have fin : ∀ {σ6 : L2.St} {H6 : Hp} {R : Shared → Prop}, Inv (X.suite a ((a, oe4) :: (X.pn ++ pins))) [] σ6 H6 s6 → (∀ s7, Inv X pins (σ6.set i none) H6 s7 → R s7) →
          wpAny (model X.prog X.w) X.A (do bindName X.env n .none; unbindBehindTheSuite X.env n p2) (fun _ => R) X.xe s6 := fun S6 q => gone_ok (S6.unsuite ok) hN hi hl q
      cases f with
      | ret u => obtain ⟨v6, σ6, H6, S6, r6, q6⟩ := q; exact fin S6 fun s7 J7 => ⟨_, _, _, J7, r6, q6⟩
      | next => obtain ⟨σ6, H6, S6, q6⟩ := q; exact fin S6 fun s7 J7 => ⟨_, _, J7, q6⟩
      | brk => obtain ⟨σ6, H6, S6, q6⟩ := q; exact fin S6 fun s7 J7 => ⟨_, _, J7, q6⟩
      | cont => obtain ⟨σ6, H6, S6, q6⟩ := q; exact fin S6 fun s7 J7 => ⟨_, _, J7, q6⟩
theorem ps_tryC {body : List Stmt} {h₀ : ExceptHandler} {hds : List ExceptHandler} {l : List Cla} {tb : WX → TS} {pos : Pos} (hs : X.stack = X.env :: X.outer) (hf : X.env.frame = some X.env.locals) (hN : X.N.Nodup)
    (hb : ∀ (W : WX) (pn : List (Addr × Obj)) (xe : Value → Shared → Prop), Takes (X.tr pn xe) W → PassesOwn (model X.prog X.w) X.A X.env xe → PSs (X.tr pn xe) body (tb W)) (hh : Clas X (h₀ :: hds) l) :
    PS X (.Try body (h₀ :: hds) [] [] pos) (fun D σ H => tb (wCla X.K D l) D σ H) := by
  refine ⟨fun pins s σ H D I h => ?_⟩
  have ok := I.ok
  have hfr : X.A.frames = some (X.env :: X.outer) := ok.frames.trans (congrArg some hs)
  refine wpAny_Try_except (wpAny_mono ((hb (wCla X.K D l) (X.pn ++ pins) (fun e s₁ => wpAny (model X.prog X.w) X.A (noteFrame e X.env) (fun _ s₂ => wpAny (model X.prog X.w) X.A (setFlight e none) (fun _ s₃ =>
    wpAny (model X.prog X.w) X.A (handleBy e X.env (h₀ :: hds)) (SP X pins D) X.xe s₃) X.xe s₂) X.xe s₁) (fun u s' xx => ?_) PassesOwn.looking).run [] s σ H D (I.toTry _) h) (fun f s1 q => ?_) fun _ _ z => z)
  · obtain ⟨a, B, sI, _, σ', H', cls, d, rfl, J', nb, up, sky, na, os, ag, w⟩ := xx
    rw [show (X.tr (X.pn ++ pins) _).stack = X.env :: X.outer from hs] at sky
    refine Sky.land Zc.steady hfr hf sky fun h3 fl3 up3 => ?_
    obtain ⟨oe, vs, he, _, hd⟩ := fl3.there
    have nfr : a ∉ frs (X.env :: X.outer) := fun hm => by
      obtain ⟨_, o', e', hnf⟩ := fl3.2.2.1.mem hm
      cases he.symm.trans e'
      exact hnf _ hd
    refine clauses_run hN (J'.ofTry ok) nb (up.trans up3) os ag fl3 na (fun z => nfr (List.mem_filterMap.mpr ⟨X.env, List.mem_cons_self, by rw [hf, z]⟩)) (fun hm => ?_) hh w
    obtain ⟨e, m, q⟩ := List.mem_filterMap.mp hm
    exact nfr (List.mem_filterMap.mpr ⟨e, List.mem_cons_of_mem _ m, q⟩)
  · cases f with
    | ret u => obtain ⟨v, σ', H', J', r, q⟩ := q; exact ⟨v, σ', H', J'.ofTry ok, r, q⟩
    | next => obtain ⟨σ', H', J', q⟩ := q; exact wpAny_execs_nil ⟨σ', H', J'.ofTry ok, q⟩
    | brk => obtain ⟨σ', H', J', q⟩ := q; exact ⟨σ', H', J'.ofTry ok, q⟩
    | cont => obtain ⟨σ', H', J', q⟩ := q; exact ⟨σ', H', J'.ofTry ok, q⟩
end
/-! ### .. by value -/
def inR (i : Option Nat) (d : D) (ρ : Rho) : Rho := match i with
  | none => ρ
  | some i => ρ.set i (some d)
def offR (i : Option Nat) (ρ : Rho) : Rho := match i with
  | none => ρ
  | some i => ρ.set i none
def offP (i : Option Nat) (P : Po) : Po := ⟨fun ρ S => P.nx (offR i ρ) S, P.rt, fun ρ S => P.bk (offR i ρ) S, fun ρ S => P.ct (offR i ρ) S⟩
def HdV (c : Ctx) (P : Po) : List Cla → Addr → List (Str × D) → Rho → Sto → Prop
  | [], _, _, _, _ => False
  | k :: r, C, fs, ρ, S => ∃ b, PySem.W.exmOne c.K (.ref C) k.c = some b ∧ (b = true → ∀ a dd, VX c (k.t a (.ref C) (some dd)) (inR k.i (.xcp a dd C fs) ρ) S (offP k.i P)) ∧ (b = false → HdV c P r C fs ρ S)
theorem In.off {c : Ctx} {σ : L2.St} {H : Hp} {ρ : Rho} {S T : Sto} (I : In c σ H ρ S T) (i : Option Nat) : In c (offSl i σ) H (offR i ρ) S T := by
  cases i with
  | none => exact I
  | some i =>
    refine ⟨I.cells, fun j e q => ?_, by show (σ.set i none).length = (ρ.set i none).length; simp [I.len], I.exc⟩
    have q' : (ρ.set i none)[j]? = some (some e) := q
    by_cases z : i = j
    · subst z
      by_cases hv : i < ρ.length
      · rw [List.getElem?_set_self hv] at q'; cases q'
      · rw [List.getElem?_eq_none (by simpa using hv)] at q'; cases q'
    · rw [List.getElem?_set_ne z] at q'
      obtain ⟨u, h1, h2⟩ := I.slots j e q'
      exact ⟨u, by show (σ.set i none)[j]? = _; rw [List.getElem?_set_ne z]; exact h1, h2⟩
theorem Bh.off {c : Ctx} {P : Po} {D : Ends} {T : Sto} {H : Hp} (b : Bh c P D T H) (i : Option Nat) : Bh c (offP i P) (offE i D) T H :=
  ⟨fun _ _ S' T' H' m I q => b.nx _ _ S' T' H' m (I.off i) q, b.rt, fun _ _ S' T' H' m I q => b.bk _ _ S' T' H' m (I.off i) q, fun _ _ S' T' H' m I q => b.ct _ _ S' T' H' m (I.off i) q⟩
theorem vx_try {c : Ctx} {ρ : Rho} {S : Sto} {P : Po} {tb : WX → TS} {l : List Cla} (h : ∀ E' : L2.St → XK, VX ⟨c.K, E', fun C fs ρ' S' => HdV c P l C fs ρ' S'⟩ (tb (fun cls d σ H => E' σ cls d H)) ρ S P) :
    VX c (fun D σ H => tb (wCla c.K D l) D σ H) ρ S P := fun T σ H I Dn b => by
  have key : ∀ (l : List Cla) (σ' : L2.St) (ρ' : Rho) (C : Addr) (d : Option Addr) (fs : List (Str × D)) (S' T' : Sto) (H' : Hp), Mv T H T' H' → Cells c.K H' S' T' → Sl c.K H' T' σ' ρ' → XRep c.K H' T' d fs → HdV c P l C fs ρ' S' → wCla c.K Dn l (.ref C) d σ' H' := by
    intro l
    induction l with
    | nil => exact fun _ _ _ _ _ _ _ _ _ _ _ _ y => y.elim
    | cons k r ih =>
      rintro σ' ρ' C d fs S' T' H' m cl sl ⟨dd, fv, rfl, sd, hd, rf⟩ ⟨bb, e, yes, no⟩
      refine ⟨bb, e, fun z a na => ?_, fun z => ih σ' ρ' C _ fs S' T' H' m cl sl ⟨dd, fv, rfl, sd, hd, rf⟩ (no z)⟩
      have I2 : In c σ' H' ρ' S' T' := ⟨cl, sl.slots, sl.len, (I.mv m cl).exc⟩
      have rx : Rep c.K H' T' (.ref a) (.xcp a dd C fs) := .xcp sd hd rf
      have I3 : In c (inSl k.i a σ') H' (inR k.i (.xcp a dd C fs) ρ') S' T' := by
        cases k.i with
        | none => exact I2
        | some i => exact I2.set i rx
      exact yes z a dd T' _ H' I3 _ ((b.mv m).off k.i)
  have I' : In ⟨c.K, fun σ cls d H => wCla c.K Dn l cls d σ H, fun C fs ρ' S' => HdV c P l C fs ρ' S'⟩ σ H ρ S T := ⟨I.cells, I.slots, I.len, fun σ' ρ' C d fs S' T' H' m cl sl x y => key l σ' ρ' C d fs S' T' H' m cl sl x y⟩
  have b' : Bh ⟨c.K, fun σ cls d H => wCla c.K Dn l cls d σ H, fun C fs ρ' S' => HdV c P l C fs ρ' S'⟩ P Dn T H :=
    ⟨fun σ' ρ' S' T' H' m J q => b.nx σ' ρ' S' T' H' m ⟨J.cells, J.slots, J.len, (I.mv m J.cells).exc⟩ q, fun v d S' T' H' m cl r q => b.rt v d S' T' H' m cl r q,
     fun σ' ρ' S' T' H' m J q => b.bk σ' ρ' S' T' H' m ⟨J.cells, J.slots, J.len, (I.mv m J.cells).exc⟩ q, fun σ' ρ' S' T' H' m J q => b.ct σ' ρ' S' T' H' m ⟨J.cells, J.slots, J.len, (I.mv m J.cells).exc⟩ q⟩
  exact h (fun σ cls d H => wCla c.K Dn l cls d σ H) T σ H I' Dn b'
end VS
namespace VS
open PySem L2 C8 PySem.Spec PyProof.Rows
/-! ### sorted of whole numbers, of a list or a tuple -/
/-- the numbers rising; falling -/
def up (ns : List Int) : List Int := ns.mergeSort (fun a b => decide (a ≤ b))
def dn (ns : List Int) : List Int := (up ns).reverse
theorem up_perm (ns : List Int) : (up ns).Perm ns := List.mergeSort_perm ..
theorem up_sorted (ns : List Int) : (up ns).Pairwise (· ≤ ·) := by
  have h := List.pairwise_mergeSort (le := fun a b : Int => decide (a ≤ b)) (fun a b c h1 h2 => decide_eq_true (Int.le_trans (of_decide_eq_true h1) (of_decide_eq_true h2))) (fun a b => by
    rcases Int.le_total a b with h | h
    · rw [decide_eq_true h]; rfl
    · rw [decide_eq_true h, Bool.or_true]) ns
  exact h.imp of_decide_eq_true
theorem up_len (ns : List Int) : (up ns).length = ns.length := (up_perm ns).length_eq
section
variable {c : Ctx} {ρ : Rho} {S : Sto} {F : D → Sto → Prop}
/-! ### a list taken apart; zip of tuples or lists -/
theorem vg_unl {d : D} {n : Nat} {gs : TGs} {ds : List D} {F : Rho → Sto → Prop} (hd : IsL S d ds) (hn : ds.length = n) (h : VGs c gs ds ρ S F) : VG c (gUnl c.K n gs) d ρ S F := fun T v σ H I r Q k => by
  obtain ⟨a, xs, rfl, s, r⟩ := hd.rd I.cells r
  exact ⟨a, xs, rfl, s, by rw [r.length]; exact hn, h T xs σ H I r Q k⟩
/-- a tuple by value stays -/
theorem tup_stays {K : PySem.W.Frag} {T : Sto} {H : Hp} {u : V} {ds : List D} (r : Rep K H T u (.tup ds)) : ∃ a xs, u = .ref a ∧ (∀ T' H', Mv T H T' H' → SqT K H' a xs) ∧ RepL K H T xs ds := by
  cases r with
  | tup s h r => exact ⟨_, _, rfl, fun T2 H2 m => .inl (.inl (m.keep _ _ s h)), r⟩
  | tupK h r => exact ⟨_, _, rfl, fun T2 H2 m => .inr h, r⟩
end
end VS
namespace VS
open PySem L2 C8 PySem.Spec PyProof.Rows
/-! ### enumerate over a tuple -/
end VS
namespace VS
open PySem L2 C8 PySem.Spec PyProof.Rows
/-! ### own classes: what is known of a thing's class, isinstance -/
inductive OfC (K : PySem.W.Frag) (S : Sto) : D → Value → Prop
  | p {x : D} {n : String} (h : TyS S x n) : OfC K S x (.type n)
  | i {x : D} {C : Addr} {fs : List (Str × D)} (h : IsI S x C fs) (c : InsC K C) : OfC K S x (.ref C)
  | e {C : Addr} {fs : List (Str × D)} (T : XcT K C) : OfC K S (.xv C fs) (.ref C)
theorem OfC.ok {K : PySem.W.Frag} {H : Hp} {S T : Sto} {x : D} {t : Value} {u : V} (o : OfC K S x t) (cl : Cells K H S T) (r : Rep K H T u x) : TyZ K H u t := by
  cases o with
  | e T => cases r with | xv s h s2 h2 r => exact .e h h2 T
  | p h => exact .x (h.ok cl r)
  | i h c =>
    obtain ⟨a, dx, fs, rfl, ha, _⟩ := h.rd cl r
    exact .x (.base (.ins ha c.cl c.ha c.hn c.htk c.hm))
def rIsiV (K : PySem.W.Frag) : CR1 := fun xs H Q => ∃ (x : V) (tp : Addr) (cs : List V) (t : Value) (us : List Value) (b : Bool), xs = [x, .ref tp] ∧ SqT K H tp cs ∧ Paired ClsV cs us ∧ TyZ K H x t ∧ PySem.W.kitAny K t us = some b ∧ Q (.bl b) H
theorem c_isiV {X : Cx} : CallR X (.builtin "isinstance") (rIsiV X.K) := by
  intro pins s σ H xs us Q I r h
  obtain ⟨x, tp, cs, t, ws, b, rfl, hT, k, ty, e, q⟩ := h
  obtain ⟨u1, u2, rfl, r1, r2⟩ := vals2 r
  cases (show u2 = Value.ref tp from r2)
  obtain ⟨P, Z, p, hx⟩ := kit_ofZ I r1 ty
  obtain ⟨its, rv, ⟨o, h1, h2, n, h3⟩, _⟩ := I.tuple hT
  have e3 := ClsV.all k rv
  subst e3
  obtain ⟨oc, od, dt, sl⟩ := o
  simp only at h2 h3
  subst h2 h3
  exact PySem.W.kia_tup Z I.kIn p h1 e hx fun tk => ⟨.bl b, H, I.tok tk, rfl, q⟩
section
variable {c : Ctx} {ρ : Rho} {S : Sto} {F : D → Sto → Prop}
theorem rc_isiO {x : D} {t : Value} {C : Addr} {b : Bool} (o : OfC c.K S x t) (h : PySem.W.kitOne c.K t (.ref C) = some b) (q : F (.bl b) S) : RC c (rIsiZ c.K) [x, .ref C] S F := fun T us H cl r Q k => by
  cases r with
  | cons h1 r => cases r with
    | cons h2 r =>
      cases r
      cases h2
      exact ⟨_, _, _, _, b, rfl, .own C, o.ok cl h1, h, k _ _ S T H Mv.refl cl (.bl _) q⟩
/-- an own class's name -/
theorem ve_cls {C : Addr} (q : F (.ref C) S) : VE c (tC (.ref C)) ρ S F := ve_ref q
/-- isinstance by several classes -/
inductive ClsD : D → Value → Prop
  | ty (n : String) : ClsD (.ty n) (.type n)
  | own (C : Addr) : ClsD (.ref C) (.ref C)
theorem clsD_all {K : PySem.W.Frag} {H : Hp} {T : Sto} : ∀ {cs : List V} {ds : List D} {us : List Value}, Paired ClsD ds us → RepL K H T cs ds → Paired ClsV cs us
  | _, _, _, .nil, .nil => .nil
  | _, _, _, .cons c t, .cons r rt => .cons (by
    cases c with
    | ty n => cases r; exact .ty n
    | own C => cases r; exact .own C) (clsD_all t rt)
theorem rc_isiV {x : D} {t : Value} {ds : List D} {us : List Value} {b : Bool} (o : OfC c.K S x t) (p : Paired ClsD ds us) (h : PySem.W.kitAny c.K t us = some b) (q : F (.bl b) S) : RC c (rIsiV c.K) [x, .tup ds] S F := fun T vs H cl r Q k => by
  cases r with
  | cons h1 r => cases r with
    | cons h2 r =>
      cases r
      obtain ⟨a, xs, rfl, s, rr⟩ := h2.seqT
      exact ⟨_, a, xs, t, us, b, rfl, s, clsD_all p rr, o.ok cl h1, h, k _ _ S T H Mv.refl cl (.bl _) q⟩
end
/-! ### == by an own __eq__ -/
def rEqO (K : PySem.W.Frag) (C : Addr) (sp : Sp) : R2 := fun x y H Q => ∃ a dx fs t, x = .ref a ∧ H a = some (.ins C dx fs) ∧ TyZ K H y t ∧ PySem.W.notFirst K C t = true ∧ sp [x, y] H (fun v H' => ∃ b, v = .bl b ∧ Q (.bl b) H') (fun _ _ _ => False)
section
variable {X : Cx} {k : Nat} {f C : Addr} {fd : FuncData} {ps : List Str} {sp : Sp}
theorem tyx_looks {pins : List (Addr × Obj)} {σ : L2.St} {H : Hp} {s : Shared} {y : V} {u t : Value} (I : Inv X pins σ H s) (r : RelV y u) (ty : TyZ X.K H y t) : PySem.W.Looks (model X.prog X.w) s.heap (typeOf u) t := by
  obtain ⟨P, Z, p, _⟩ := kit_ofZ I r ty
  exact Z.ty _ _ I.kIn p
theorem op_eqO (F : FnG X.prog X.w X.K X.mg X.base (L2.CX X.prog X.w) k f fd ps sp) (hgd : X.A.guards = some []) (hr : Room k X.A) (hs : PySem.W.findIn X.K (.ref C) "__eq__" = some (some (.ref f))) (hf : PySem.W.isFn X.K (.ref f) = true) (hb : Binds X.K fd ps []) :
    OpR X (compareOp .Eq) (rEqO X.K C sp) := by
  intro pins s σ H x y v u Q I rx ry h
  obtain ⟨a, dx, fs, t, rfl, ha, ty, hn, hp⟩ := h
  cases rx
  obtain ⟨mA, J, _⟩ := ins_get I.hok ha
  obtain ⟨od, J, _⟩ := J.look
  obtain ⟨m, hF⟩ := I.fr
  show wpAny _ _ (richCompare .Eq (.ref a) u) _ _ _
  refine PySem.W.cmp_K (op := .Eq) (tb := t) hr.units0 hF I.ok.mod.kin J (tyx_looks I ry ty) hn hs hf ?_
  have hl := F.len _ _ _ _ hp
  refine wpAny_mono (callG (E := fun _ _ _ _ => False) F hgd hr (bindsAt (vs := [.ref a, y]) (us := [.ref a, u]) hb .nil I.kIn (.cons rfl (.cons ry .nil)) hl) pass0 I (vs := [.ref a, y]) (.cons rfl (.cons ry .nil)) hp) (fun r s' q => ?_) fun _ _ z => z
  obtain ⟨w, H', I', rw', b, ew, q'⟩ := q
  subst ew
  cases rw'
  exact ⟨.bl b, H', I', rfl, q'⟩
end
section
variable {c : Ctx} {ρ : Rho} {S : Sto} {F : D → Sto → Prop}
theorem rv_eqO {x y : D} {t : Value} {C : Addr} {fs : List (Str × D)} {p : Pt} (i : IsI S x C fs) (o : OfC c.K S y t) (hn : PySem.W.notFirst c.K C t = true) (h : p [x, y] S (fun d S' => ∃ b, d = .bl b ∧ F (.bl b) S') noY) : RV c (rEqO c.K C (spOf c.K p)) x y S F := fun T u w H cl r1 r2 Q k => by
  have ty := o.ok cl r2
  obtain ⟨a, dx, fv, rfl, ha, rf⟩ := i.rd cl r1
  refine ⟨a, dx, fv, t, rfl, ha, ty, hn, ⟨[x, y], S, T, _, noY, .cons r1 (.cons r2 .nil), cl, h, ?_, fun _ _ _ _ _ _ _ _ _ z => z.elim⟩⟩
  rintro v d S' T' H' m cl' r' ⟨b, rfl, q⟩
  cases r'
  exact ⟨b, rfl, k _ _ S' T' H' m cl' (.bl b) q⟩
/-! ### a new instance by value -/
theorem VA.imp {G G' : List D → Sto → Prop} {ta : TA} (h : VA c ta ρ S G) (i : ∀ d S, G d S → G' d S) : VA c ta ρ S G' := fun T σ H I Q k => h T σ H I Q fun v d S' T' H' m cl r q => k v d S' T' H' m cl r (i _ _ q)
theorem del_put {S : Sto} {p : Addr} {d : D} (h : S p = none) : del (put S p d) p = S := by
  funext b
  by_cases z : b = p
  · subst z; rw [del_same, h]
  · rw [del_ne z, put_ne z]
theorem del_put2 {S : Sto} {p : Addr} {d e : D} (h : S p = none) : del (put (put S p d) p e) p = S := by
  rw [put_put, del_put h]
/-- C(e, ..), known by value from then on -/
theorem ve_mkV {p : Pt} {E : L2.St → XK} {Y} {t : TA} {C : Addr} {dvs : List V} {dds : List D} (x : XOk c ρ E Y) (hd : ∀ H T, RepL c.K H T dvs dds)
    (h : VA c t ρ S fun ds S1 => ∀ y, S1 y = none → p (.ref y :: (ds ++ dds)) (put S1 y (.ins C [])) (fun d S2 => d = .non ∧ ∃ l d', D.ref y = .ref l ∧ S2 l = some d' ∧ ¬ NoF d' ∧ F d' (VS.del S2 l)) Y) : VE c (tMakeE C (spOf c.K p) dvs E t) ρ S F :=
  ve_freeze (ve_mk x hd h)
end
end VS
namespace VS
open PySem L2 C8 PySem.Spec PyProof.Rows
/-! ### what is known of a method, of a maker -/
structure Mf (P : Program) (w : World) (K : PySem.W.Frag) (mg : Str → Option Value) (base : Heap) (k : Nat) (C : Addr) (m qual : Str) (st : Stmt) (dvs : List V) (ps : List Str) (p : Pt) (f : Addr) (fd : FuncData) : Prop where
  fn : FnG P w K mg base (L2.CX P w) k f fd ps (spOf K p)
  df : Fd K m qual st dvs f fd
  cl : Cls K C
  me : Meth K C m f
  b : Binds K fd ps []
structure Kf (P : Program) (w : World) (K : PySem.W.Frag) (mg : Str → Option Value) (base : Heap) (k : Nat) (x : Str) (C : Addr) (qual : Str) (st : Stmt) (dvs : List V) (ps : List Str) (p : Pt) (f : Addr) (fd : FuncData) : Prop where
  mk_ : L2.Mk K C f
  fn : FnG P w K mg base (L2.CX P w) k f fd ps (spOf K p)
  df : Fd K "__init__" qual st dvs f fd
  mg : mg x = some (.ref C)
  b : Binds K fd ps []
/-- what a call that leaves some out fills up -/
structure Bd (K : PySem.W.Frag) (fd : FuncData) (ps : List Str) (dvs : List V) where
  ds : List Value
  v : Vals dvs ds
  b : Binds K fd ps ds
theorem bdN {K : PySem.W.Frag} {x qual : Str} {st : Stmt} {dvs : List V} {f : Addr} {fd : FuncData} {ps : List Str} (F : Fd K x qual st dvs f fd) (n j : Nat) (hd : dvs ≠ []) (hn : n + (dvs.length - j) = ps.length)
    (h : ∀ (T : Addr) (kV doc pm : Value) (an : Option Addr) (cdv ct : Value) (us its : List Value), us.length = n → its.length = dvs.length →
      ∃ k, bindArgs (PySem.W.fnOf x qual (defArgs st) (defBody st) (defScope st) (.ref T) kV doc pm an cdv ct) ⟨us, []⟩ = seqItems? (.ref T) >>= k ∧ k (some its.toArray) = pure (ps.zip (us ++ its.drop j))) : Nonempty (Bd K fd ps (dvs.drop j)) := by
  obtain ⟨ds, v, b⟩ := F.binds1 n j hd hn h
  exact ⟨⟨ds, v, b⟩⟩
theorem bd_nil {K : PySem.W.Frag} {fd : FuncData} {ps : List Str} (b : Bd K fd ps []) : Binds K fd ps [] := by
  obtain ⟨ds, v, q⟩ := b
  cases v
  exact q
/-- isinstance by an own class, from what the written part says -/
theorem kit_self {K : PySem.W.Frag} {C : Addr} : PySem.W.kitOne K (.ref C) (.ref C) = some true := by
  unfold PySem.W.kitOne
  rw [if_pos (beq_self_eq_true _)]
theorem kit_own {K : PySem.W.Frag} {v : Value} {C : Addr} {b : Bool} (n : (v == Value.ref C) = false) (h1 : PySem.W.isClsIn K C = true) (h2 : PySem.W.typeIn K (.ref C) = some (.type "type")) (h3 : PySem.W.subIn K v (.ref C) = some b) : PySem.W.kitOne K v (.ref C) = some b := by
  have h1' : (PySem.W.clsIn K C).isSome = true := h1
  unfold PySem.W.kitOne
  rw [if_neg (by rw [n]; decide)]
  show (if ((PySem.W.clsIn K C).isSome && PySem.W.typeIn K (.ref C) == some (.type "type")) = true then PySem.W.subIn K v (.ref C) else none) = some b
  rw [if_pos (by rw [h1', h2]; rfl)]
  exact h3
section
variable {c : Ctx} {ρ : Rho} {S : Sto} {F : D → Sto → Prop}
/-- o.m(), o.m(e, ..) -/
theorem ve_mt0 {p : Pt} {E : L2.St → XK} {Y} {ta : TE} {t : TA} {C : Addr} {m : Str} (x : XOk c ρ E Y) (h : VE c ta ρ S fun y S1 => ∃ fs, IsI S1 y C fs ∧ fs.lookup m = none ∧ VA c t ρ S1 fun ds S2 => p (y :: ds) S2 F Y) : VE c (tMethE C m (spOf c.K p) [] E ta t) ρ S F :=
  ve_mt (dds := []) x (fun _ _ => .nil) (h.imp fun y S1 ⟨fs, a, b, g⟩ => ⟨fs, a, b, g.imp fun ds S2 q => by rw [List.append_nil]; exact q⟩)
theorem ve_mk0 {p : Pt} {E : L2.St → XK} {Y} {t : TA} {C : Addr} (x : XOk c ρ E Y) (h : VA c t ρ S fun ds S1 => ∀ y, S1 y = none → p (.ref y :: ds) (put S1 y (.ins C [])) (fun d S2 => d = .non ∧ ∃ l d', D.ref y = .ref l ∧ S2 l = some d' ∧ ¬ NoF d' ∧ F d' (VS.del S2 l)) Y) : VE c (tMakeE C (spOf c.K p) [] E t) ρ S F :=
  ve_mkV (dds := []) x (fun _ _ => .nil) (h.imp fun ds S1 g y hy => by rw [List.append_nil]; exact g y hy)
end
end VS
namespace VS
open PySem L2 C8 PySem.Spec PyProof.Rows
/-! ### a list or a tuple walked -/
section
variable {c : Ctx} {ρ : Rho} {S : Sto} {F : D → Sto → Prop}
/-- isinstance by a built-in class, whatever is known of the thing's own class -/
theorem rc_isiP {x : D} {t : Value} {N : String} {b : Bool} (o : OfC c.K S x t) (h : PySem.W.kitOne c.K t (.type N) = some b) (q : F (.bl b) S) : RC c (rIsiZ c.K) [x, .ty N] S F := fun T us H cl r Q k => by
  cases r with
  | cons h1 r => cases r with
    | cons h2 r =>
      cases r
      cases h2
      exact ⟨_, _, _, _, b, rfl, .ty N, o.ok cl h1, h, k _ _ S T H Mv.refl cl (.bl _) q⟩
end
/-! ### a, b = e1, e2 -/
section
variable {c : Ctx} {ρ : Rho} {S : Sto}
theorem vx_par {i j : Nat} {ta : TA} {nx bk ct : Rho → Sto → Prop} {rt : D → Sto → Prop} (h : VA c ta ρ S fun ds S1 => ∃ x y, ds = [x, y] ∧ nx ((ρ.set i (some x)).set j (some y)) S1) : VX c (tPar i j ta) ρ S ⟨nx, rt, bk, ct⟩ := fun T σ H I D b =>
  h T σ H I _ fun vs ds S1 T1 H1 m1 c1 r1 ⟨x, y, e, q⟩ => by
    subst e
    cases r1 with
    | cons r t => cases t with
      | cons r' t =>
        cases t
        exact ⟨_, _, rfl, b.nx _ _ S1 T1 H1 m1 (((I.mv m1 c1).set i r).set j r') q⟩
end
/-! ### a is not b of truths -/
/-! ### == of lists of whole numbers -/
theorem eqvL_ints : ∀ {ns ms : List Int}, PyData.eqvAll (pdL (ns.map D.int)) (pdL (ms.map D.int)) = decide (ns = ms)
  | [], [] => rfl
  | [], _ :: _ => rfl
  | _ :: _, [] => rfl
  | n :: ns, m :: ms => by
    show (decide (n = m) && PyData.eqvAll (pdL (ns.map D.int)) (pdL (ms.map D.int))) = _
    rw [eqvL_ints]
    by_cases h : n = m <;> by_cases k : ns = ms <;> simp [h, k]
end VS
namespace VS
open PySem L2 C8 PySem.Spec PyProof.Rows
/-! ### slices of tuples, the place of a flat thing in a list -/
section
variable {c : Ctx} {ρ : Rho} {S : Sto} {F : D → Sto → Prop}
theorem rs_tupA {ds : List D} {lo hi : Option Int} (n : ¬ (HT.sIx ds.length 0 lo = 0 ∧ HT.sIx ds.length ds.length hi = ds.length)) (q : F (.tup (cutD ds lo hi)) S) : RS c (rSlA c.K) (.tup ds) lo hi S F := fun T u H cl r Q k => by
  obtain ⟨a, xs, rfl, s, rr⟩ := r.seqT
  exact ⟨a, xs, rfl, s, fun z => absurd z (by rw [rr.length]; exact n), fun _ p hp => k _ _ S T _ (mv_new hp) (cl.new hp) (.tup (cl.free hp) upd_same ((rr.cut lo hi).mv (mv_new hp))) q⟩
end
theorem exm_own {K : PySem.W.Frag} {v : Value} {C : Addr} {b : Bool} (h1 : PySem.W.isClsIn K C = true) (h2 : PySem.W.typeIn K (.ref C) = some (.type "type")) (h3 : PySem.W.subIn K v (.ref C) = some b) (h4 : PySem.W.subIn K (.ref C) (.type "BaseException") = some true) : PySem.W.exmOne K v (.ref C) = some b := by
  have h1' : (PySem.W.clsIn K C).isSome = true := h1
  unfold PySem.W.exmOne PySem.W.kitCls
  rw [h4, if_pos (by decide)]
  show (if ((PySem.W.clsIn K C).isSome && PySem.W.typeIn K (.ref C) == some (.type "type")) = true then PySem.W.subIn K v (.ref C) else none) = some b
  rw [if_pos (by rw [h1', h2]; decide)]
  exact h3
end VS
namespace VS
open PySem L2 C8 PySem.Spec PyProof.Rows
/-! ### repr and str by an own def -/
section
variable {X : Cx} {k : Nat} {f C : Addr} {fd : FuncData} {ps : List Str} {sp : Sp} {A : Around}
/-- the callee runs, somewhere below the running body -/
theorem callG_at {pins : List (Addr × Obj)} {σ : L2.St} {H : Hp} {s : Shared} {Q : VK} {us : List Value} {vs : List V} (F : FnG X.prog X.w X.K X.mg X.base (L2.CX X.prog X.w) k f fd ps sp) (hgd : A.guards = some []) (hr : Room k A) (fr : A.frames = X.A.frames)
    (hb : Binds X.K fd ps []) (I : Inv X pins σ H s) (r : Vals vs us) (h : sp vs H Q (fun _ _ _ => False)) : wpAny (model X.prog X.w) A (call (.ref f) us) (EP X pins σ Q) X.xe s := by
  have e0 : Env0 X.prog X.w X.K X.mg X.base A X.stack s H := by
    have e := I.env0
    exact ⟨by rw [fr]; exact e.frames, e.mod, e.bs, e.bsz, e.funs, e.frf, e.hok, e.bare⟩
  have hl := F.len _ _ _ _ h
  have bd := bindsAt (dvs := []) (ds := []) (us := us) (vs := vs) hb .nil I.kIn r (by rw [List.append_nil]; exact hl)
  rw [List.append_nil] at bd
  refine wpAny_call (codeAny_mono (F.run A hgd X.stack s H ⟨us, []⟩ us vs Q (fun _ _ _ => False) hr e0 bd r h) fun rr s' q => ?_)
  have z := call_end (E := noE) pass0 I q
  cases rr with
  | error e => exact z
  | ok fl => cases fl <;> exact z
end
end VS
namespace VS
open PySem L2 C8 PySem.Spec PyProof.Rows
/-! ### f-strings of texts and ints -/
end VS
namespace VS
open PySem L2 C8 PySem.Spec PyProof.Rows
/-! ### a comprehension over a list known by reference: it is hidden meanwhile -/
section
variable {c : Ctx} {ρ : Rho} {S : Sto} {F : D → Sto → Prop}
theorem lc_heartAt {wi : TI} {g : TG} {tt : TT} {te : TE} {vs : List Nat} {R : List D → Sto → Prop} {T : Sto} {σ : L2.St} {H : Hp}
    (h : ∀ Q : It → Hp → Prop, (∀ J ds S1 T1 H1, Mv T H T1 H1 → Cells c.K H1 S1 T1 → Yl c.K J ds T1 H1 → (ds.length ≤ 100000 ∧ ∃ W : Nat → List D → Sto → Prop, W 0 [] S1 ∧ (∀ (i : Nat) (d : D) acc S2, ds[i]? = some d → W i acc S2 → acc.length ≤ i → VGw c vs g d (wipeR ρ vs) S2 fun ρ3 S3 => VT c tt ρ3 S3 fun b S4 => (b = true → VE c te ρ3 S4 fun y S5 => W (i + 1) (acc ++ [y]) S5) ∧ (b = false → W (i + 1) acc S4)) ∧
      (∀ acc S2, W ds.length acc S2 → acc.length ≤ ds.length → R acc S2)) → Q J H1) → wi σ H Q) (I : In c σ H ρ S T) {Q : VK}
    (k : ∀ p xs acc S' T' H' T1 H1, Mv T H T1 H1 → Mv T1 H1 T' H' → Cells c.K H' S' T' → T' p = some .hid → H1 p = none → H' p = some (.lst xs) → RepL c.K H' T' xs acc → R acc S' → Q (.ref p) H') : tLc wi g tt te vs σ H Q :=
  h _ fun J ds S1 T1 H1 m1 c1 ⟨G, Y, w, hG, hY⟩ ⟨hl, W, h0, hs, hd⟩ => fun p hp => by
    refine lc_it w (fun i H' => ∃ S2 T2 xs acc, Mv T1 H1 T2 H' ∧ Cells c.K H' S2 T2 ∧ T2 p = some .hid ∧ H' p = some (.lst xs) ∧ RepL c.K H' T2 xs acc ∧ acc.length ≤ i ∧ W i acc S2)
      ⟨S1, put T1 p .hid, [], [], mv_newc hp, c1.newh hp, put_same, upd_same, .nil, Nat.le_refl _, h0⟩ (fun i H' _ ⟨S2, T2, _, _, m, _⟩ => hG T2 H' m) ?_ ?_
    · rintro i x H' H'' hi ⟨S2, T2, xs, acc, m, c2, s2, hx, r2, hle, hw⟩ y
      obtain ⟨d, e⟩ : ∃ d, ds[i]? = some d := ⟨ds[i], List.getElem?_eq_getElem hi⟩
      obtain ⟨m3, c3, r3⟩ := hY i d S2 T2 H' H'' x e m c2 y
      have I2 : In c σ H'' ρ S2 T2 := I.mv (m1.trans (m.trans m3)) c3
      refine hs i d acc S2 e hw hle T2 x (L2.wipe σ vs) H'' (I2.wipe vs) r3 _ fun σ3 ρ3 S3 T3 H3 ew m4 I3 q => ⟨ew.trans (wipe_wipe vs vs fun _ h => h), ?_⟩
      refine q T3 σ3 H3 I3 _ fun b S4 T4 H4 m5 c4 ⟨q1, q2⟩ => ?_
      have mm := m3.trans (m4.trans m5)
      cases b with
      | true =>
        refine iteT (q1 rfl T4 σ3 H4 (I3.mv m5 c4) _ fun v y S5 T5 H5 m6 c5 r5 q5 => ?_)
        have m7 := mm.trans m6
        obtain ⟨hx5, s5⟩ := m7.hid _ _ s2 hx
        refine ⟨xs, hx5, ?_, S5, T5, xs ++ [v], acc ++ [y], (m.trans m7).hidw hp, c5.hidw s5, s5, upd_same, ((r2.mv m7).append (.cons r5 .nil)).mk (mk_hid s5), ?_, q5⟩
        · rw [r2.length]
          exact Nat.lt_of_lt_of_le (show acc.length < 100001 by omega) (by decide)
        · rw [List.length_append, List.length_singleton]
          omega
      | false =>
        obtain ⟨hx5, s5⟩ := mm.hid _ _ s2 hx
        exact iteF ⟨S4, T4, xs, acc, m.trans mm, c4, s5, hx5, r2.mv mm, by omega, q2 rfl⟩
    · rintro H' ⟨S2, T2, xs, acc, m, c2, s2, hx, r2, hle, hw⟩
      exact k p xs acc S2 T2 H' T1 H1 m1 m c2 s2 hp hx r2 (hd acc S2 hw hle)
theorem mv_hide {T : Sto} {H : Hp} {l : Addr} {d : D} (h : T l = some d) (ne : d ≠ .hid) : Mv T H (put T l .hid) H where
  keep := fun _ _ _ h => h
  fresh := fun a s _ => by
    rw [put_ne]
    · exact s
    · intro z; subst z; rw [h] at s; cases s
  hid := fun a o s e => by
    refine ⟨e, ?_⟩
    rw [put_ne]
    · exact s
    · intro z; subst z; rw [h] at s; cases s; exact absurd rfl ne
theorem Cells.hide {K : PySem.W.Frag} {S T : Sto} {H : Hp} {l : Addr} {ds : List D} {xs : List V} (cl : Cells K H S T) (h : S l = some (.lst ds)) (hx : H l = some (.lst xs)) : Cells K H (VS.del S l) (put T l .hid) := by
  have ht := cl.at h
  refine ⟨fun a => ?_, fun a e q => ?_⟩
  · by_cases z : a = l
    · subst z; exact .inr ⟨del_same, put_same⟩
    · rw [put_ne z, VS.del_ne z]; exact cl.ov a
  · by_cases z : a = l
    · subst z; rw [put_same] at q; cases q; exact ⟨_, hx⟩
    · rw [put_ne z] at q
      exact CellOk.mk (mv_hide ht (by nofun)).toMk rfl (cl.ok a e q)
end
end VS
namespace VS
open PySem L2 C8 PySem.Spec PyProof.Rows
/-! ### x in, not in a list of data -/
def rInPL (K : PySem.W.Frag) (neg : Bool) : R2 := fun x y H Q => ∃ d ds T, Rep K H T x d ∧ Rep K H T y (.lst ds) ∧ isP d = true ∧ isP (.lst ds) = true ∧ SeqAt.shaped (pd d) = true ∧ SeqAt.shaped (pd (.lst ds)) = true ∧
  Q (.bl (if neg then !((pdL ds).any fun z => PyData.eqv z (pd d)) else (pdL ds).any fun z => PyData.eqv z (pd d))) H
section
variable {X : Cx} {k : Nat}
theorem op_inPL (hr : Room k X.A) (hs : SysOk X.base) : OpR X (compareOp .In) (rInPL X.K false) := by
  intro pins s σ H x y v u Q I rx ry h
  obtain ⟨d, ds, T, r1, r2, i1, i2, s1, s2, q⟩ := h
  obtain ⟨as, h1, _⟩ := Rep.reads hs I d x v r1 i1 rx
  obtain ⟨bs, h2, _⟩ := Rep.reads hs I (.lst ds) y u r2 i2 ry
  have hu : X.A.units + 65 < cLine := by have := hr.un; omega
  exact SeqAt.in_list_reads h2 h1 (SeqAt.canLay_of_shaped s2) (SeqAt.canLay_of_shaped s1) (room_in_shaped s1 hu) ⟨.bl _, H, I, rfl, q⟩
end
section
variable {c : Ctx} {S : Sto} {F : D → Sto → Prop}
theorem rv_inPL {neg : Bool} {x y d : D} {ds : List D} (h1 : Vw S x d) (h2 : Vw S y (.lst ds)) (i1 : isP d = true) (i2 : isP (.lst ds) = true) (s1 : SeqAt.shaped (pd d) = true) (s2 : SeqAt.shaped (pd (.lst ds)) = true)
    (q : F (.bl (if neg then !((pdL ds).any fun z => PyData.eqv z (pd d)) else (pdL ds).any fun z => PyData.eqv z (pd d))) S) : RV c (rInPL c.K neg) x y S F := fun T u w H cl r1 r2 Q k => by
  obtain ⟨T1, m1, q1⟩ := h1.rd cl r1
  obtain ⟨T2, m2, q2⟩ := h2.rd cl r2
  exact ⟨d, ds, fun _ => none, q1.any, q2.any, i1, i2, s1, s2, k _ _ S T H Mv.refl cl (.bl _) q⟩
end
end VS
namespace VS
open PySem L2 C8 PySem.Spec PyProof.Rows
/-! ### an own class beside a built-in one -/
theorem kit_tyO {K : PySem.W.Frag} {C : Addr} {T : String} {b : Bool} (h : PySem.W.kitMeta T = true) (h2 : PySem.W.subIn K (.ref C) (.type T) = some b) : PySem.W.kitOne K (.ref C) (.type T) = some b := by
  unfold PySem.W.kitOne
  rw [if_neg (by simp)]
  show (if PySem.W.kitMeta T = true then PySem.W.subIn K (.ref C) (.type T) else none) = some b
  rw [if_pos h]
  exact h2
end VS
namespace VS
open PySem L2
/-! ### further words of the walk -/
section
variable {c : Ctx} {ρ : Rho} {S : Sto} {F : D → Sto → Prop}
theorem ex_ins {x : D} {C : Addr} {fs : List (Str × D)} {m : Str} {G : Prop} (i : IsI S x C fs) (h : fs.lookup m = none) (g : G) : ∃ fs, IsI S x C fs ∧ fs.lookup m = none ∧ G := ⟨fs, i, h, g⟩
theorem ex_fldI {K : PySem.W.Frag} {x : D} {C : Addr} {fs : List (Str × D)} {f : Str} {e : D} {G : D → Prop} (i : IsI S x C fs) (k : Cls K C) (n : NoAttr K C f) (h : fs.lookup f = some e) (g : G e) :
    ∃ C fs e, IsI S x C fs ∧ Cls K C ∧ NoAttr K C f ∧ fs.lookup f = some e ∧ G e := ⟨C, fs, e, i, k, n, h, g⟩
theorem ex_cell {l : Addr} {ds : List D} {G : Addr → Prop} (h : S l = some (.lst ds)) (g : G l) : ∃ l' ds, D.ref l = .ref l' ∧ S l' = some (.lst ds) ∧ G l' := ⟨l, ds, rfl, h, g⟩
end
end VS
namespace VS
theorem brYn {α : Type} {x y : α} [Decidable (x = y)] {A B : Prop} (e : x ≠ y) (b : B) : (decide (x = y) = true → A) ∧ (decide (x = y) = false → B) :=
  ⟨fun z => (by rw [decide_eq_false e] at z; cases z), fun _ => b⟩
end VS
namespace VS
open PySem L2
/-! ### data, by value or as a list or dict known by reference -/
inductive Da (S : Sto) : D → D → Prop
  | v {d : D} (p : isP d = true) : Da S d d
  | c {l : Addr} {ds : List D} (h : S l = some (.lst ds)) (p : isP (.lst ds) = true) : Da S (.ref l) (.lst ds)
  | k {l : Addr} {ds : List (Key × D)} (h : S l = some (.dK ds)) (p : isP (.dK ds) = true) : Da S (.ref l) (.dK ds)
def tyN : D → String
  | .non => "NoneType"
  | .bl _ => "bool"
  | .int _ => "int"
  | .str _ => "str"
  | .lst _ => "list"
  | .tup _ => "tuple"
  | .dK _ => "dict"
  | _ => ""
section
variable {S S' : Sto} {d d' : D}
theorem Da.p (h : Da S d d') : isP d' = true := by cases h <;> assumption
theorem Da.vw (h : Da S d d') : Vw S d d' := by
  cases h with
  | v p => exact .v
  | c h p => exact .c h nofun
  | k h p => exact .c h nofun
theorem Da.ty (h : Da S d d') : TyS S d (tyN d') := by
  cases h with
  | v p =>
    cases d with
    | non => exact .non
    | bl b => exact .bl b
    | int i => exact .int i
    | str z => exact .str z
    | lst xs => exact .lst xs
    | tup xs => exact .tup xs
    | dK xs => exact .dK xs
    | _ => cases p
  | c h p => exact .cl h
  | k h p => exact .cd h
theorem Da.of {K : PySem.W.Frag} (h : Da S d d') : OfC K S d (.type (tyN d')) := .p h.ty
/-- all items of a list are data, one to one -/
inductive DaL (S : Sto) : List D → List D → Prop
  | nil : DaL S [] []
  | cons {d d' : D} {ds ds' : List D} (h : Da S d d') (t : DaL S ds ds') : DaL S (d :: ds) (d' :: ds')
theorem DaL.at : ∀ {xs ys : List D} {i : Nat} {d : D}, DaL S xs ys → xs[i]? = some d → ∃ d', ys[i]? = some d' ∧ Da S d d'
  | _, _, _, _, .nil, e => by simp at e
  | _, _, 0, _, .cons h _, e => by simp at e; subst e; exact ⟨_, rfl, h⟩
  | _, _, i + 1, d, .cons _ t, e => by
    obtain ⟨d', h1, h2⟩ := DaL.at (i := i) (d := d) t (by simpa using e)
    exact ⟨d', by simpa using h1, h2⟩
theorem DaL.length : ∀ {xs ys : List D}, DaL S xs ys → xs.length = ys.length
  | _, _, .nil => rfl
  | _, _, .cons _ t => congrArg Nat.succ t.length
theorem DaL.append : ∀ {xs ys us vs : List D}, DaL S xs ys → DaL S us vs → DaL S (xs ++ us) (ys ++ vs)
  | _, _, _, _, .nil, k => k
  | _, _, _, _, .cons h t, k => .cons h (t.append k)
end
end VS
namespace VS
open L2
theorem atI_zero {α : Type} {x : α} {xs : List α} : atI (x :: xs) 0 = some x := atI_nat (j := 0) rfl
end VS
namespace VS
open PySem L2 C8
section
variable {c : Ctx} {S : Sto} {F : D → Sto → Prop}
theorem rv_catA {xs ys : List D} (hl : xs.length + ys.length ≤ sizeLine) (q : F (.tup (xs ++ ys)) S) : RV c (rCatA c.K) (.tup xs) (.tup ys) S F := fun T u w H cl r1 r2 Q k => by
  obtain ⟨a, us, rfl, s1, rr1⟩ := r1.seqT
  obtain ⟨b, ws, rfl, s2, rr2⟩ := r2.seqT
  refine ⟨a, b, us, ws, rfl, rfl, s1, s2, by rw [rr1.length, rr2.length]; exact hl, fun e => ?_, fun _ e => ?_, fun _ _ p hp => ?_⟩
  · subst e
    cases rr1
    exact k _ _ S T H Mv.refl cl r2 q
  · subst e
    cases rr2
    rw [List.append_nil] at q
    exact k _ _ S T H Mv.refl cl r1 q
  · exact k _ _ S T _ (mv_new hp) (cl.new hp) (.tup (cl.free hp) upd_same ((rr1.append rr2).mv (mv_new hp))) q
theorem rs_tupG {ds : List D} {lo hi : Option Int} (q : F (.tup (cutD ds lo hi)) S) : RS c (rSlA c.K) (.tup ds) lo hi S F := by
  by_cases n : HT.sIx ds.length 0 lo = 0 ∧ HT.sIx ds.length ds.length hi = ds.length
  · have e : cutD ds lo hi = ds := by
      unfold cutD
      rw [n.1, n.2, List.drop_zero, Nat.sub_zero, List.take_length]
    rw [e] at q
    exact fun T u H cl r Q k => by
      obtain ⟨a, xs, rfl, s, rr⟩ := r.seqT
      exact ⟨a, xs, rfl, s, fun _ => k _ _ S T H Mv.refl cl r q, fun z => absurd (by rw [rr.length]; exact n) z⟩
  · exact rs_tupA n q
theorem cut_len {xs : List D} {lo hi : Option Int} : (cutD xs lo hi).length ≤ xs.length := by
  unfold cutD
  rw [List.length_take, List.length_drop]
  omega
end
end VS
namespace VS
theorem ex_two {x y : D} {G : D → D → Prop} (g : G x y) : ∃ x' y', ([x, y] : List D) = [x', y'] ∧ G x' y' := ⟨x, y, rfl, g⟩
end VS
namespace VS
open L2
end VS
namespace VS
open PySem L2
theorem keepc {S : Sto} {p a : Addr} {d x : D} (h : S a = some x) (hp : S p = none) : put S p d a = some x := (put_ne (ne_at h hp)).trans h
end VS
namespace VS
open PySem L2
theorem Da.put {S : Sto} {y : Addr} {x d d' : D} (h : Da S d d') (hy : S y = none) : Da (VS.put S y x) d d' := by
  cases h with
  | v p => exact .v p
  | c h p => exact .c (keepc h hy) p
  | k h p => exact .k (keepc h hy) p
end VS
namespace VS
theorem joinD {A Q : D → Sto → Prop} {B : Prop} (h : (∀ d S, A d S → Q d S) → B) (k : ∀ d S, A d S → Q d S) : B := h k
end VS
namespace VS
open PySem L2 C8
/-! ### try by name -/
def tTry (K : PySem.W.Frag) (tb : WX → TS) (l : List Cla) : TS := fun D σ H => tb (wCla K D l) D σ H
section
variable {X : Cx}
theorem ps_tryD {body : List Stmt} {h₀ : ExceptHandler} {hds : List ExceptHandler} {l : List Cla} {tb : WX → TS} {pos : Pos} (hs : X.stack = X.env :: X.outer) (hf : X.env.frame = some X.env.locals) (hN : X.N.Nodup)
    (hb : ∀ (W : WX) (pn : List (Addr × Obj)) (xe : Value → Shared → Prop), Takes (X.tr pn xe) W → PassesOwn (model X.prog X.w) X.A X.env xe → PSs (X.tr pn xe) body (tb W)) (hh : Clas X (h₀ :: hds) l) :
    PS X (.Try body (h₀ :: hds) [] [] pos) (tTry X.K tb l) := ps_tryC hs hf hN hb hh
end
theorem vx_tryD {c : Ctx} {ρ : Rho} {S : Sto} {P : Po} {tb : WX → TS} {l : List Cla} (h : ∀ E' : L2.St → XK, VX ⟨c.K, E', fun C fs ρ' S' => HdV c P l C fs ρ' S'⟩ (tb (fun cls d σ H => E' σ cls d H)) ρ S P) :
    VX c (tTry c.K tb l) ρ S P := vx_try h
end VS
namespace VS
open PySem L2 C8
theorem ex_xf {a dd C : Addr} {fs : List (Str × D)} {f : Str} {e : D} {G : D → Prop} (h : fs.lookup f = some e) (g : G e) : ∃ dd' fs' e', D.xcp a dd C fs = .xcp a dd' C fs' ∧ some dd = some dd' ∧ fs'.lookup f = some e' ∧ G e' := ⟨dd, fs, e, rfl, rfl, h, g⟩
end VS
namespace VS
open PySem L2 C8
/-! ### within a clause's suite -/
end VS
namespace VS
open PySem L2
/-! ### what is known by reference read as by value meanwhile -/
end VS
namespace VS
open PySem L2
section
variable {c : Ctx} {ρ ρ' : Rho} {S : Sto} {F : D → Sto → Prop} {G : Bool → Sto → Prop}
def isLT : D → Bool
  | .lst _ => true
  | .tup _ => true
  | _ => false
theorem rc_isiLT {d d' : D} (hd : Da S d d') (q : F (.bl (isLT d')) S) : RC c (rIsiV c.K) [d, .tup [.ty "list", .ty "tuple"]] S F := by
  have e : PySem.W.kitAny c.K (.type (tyN d')) [.type "list", .type "tuple"] = some (isLT d') := by
    have p := hd.p
    cases d' with
    | non => rfl
    | bl b => rfl
    | int i => rfl
    | str z => rfl
    | lst xs => rfl
    | tup xs => rfl
    | dK xs => rfl
    | _ => cases p
  exact rc_isiV hd.of (.cons (.ty _) (.cons (.ty _) .nil)) e q
theorem ex_self {K : PySem.W.Frag} {l C : Addr} {fs : List (Str × D)} {f : Str} {G : Addr → Addr → List (Str × D) → Prop} (h : S l = some (.ins C fs)) (k : Cls K C) (n : NoAttr K C f) (hl : fs.length < 1000) (g : G l C fs) :
    ∃ l' C' fs', D.ref l = .ref l' ∧ S l' = some (.ins C' fs') ∧ Cls K C' ∧ NoAttr K C' f ∧ fs'.length < 1000 ∧ G l' C' fs' := ⟨l, C, fs, rfl, h, k, n, hl, g⟩
end
end VS
namespace VS
open PySem L2 C8 PySem.Spec PyProof.Rows
/-! ### len and != by an own def -/
section
variable {prog : Program} {w : World} {A : Around} {E : Value → Shared → Prop} {s : Shared} {K : PySem.W.Frag} {x C f : Addr} {ox : Obj} {od : Option Obj} {b : Value}
def LenBack (Q : Value → Shared → Prop) (v : Value) (s' : Shared) : Prop := ∃ (i : Int) (t : Tok), v = .int i t ∧ 0 ≤ i ∧ i < 2 ^ 63 ∧ Q (.int i s'.toks) { s' with toks := s'.toks + 1 }
theorem len_own {Q : Value → Shared → Prop} (X : K.In s.heap) (I : PySem.W.InstAt s.heap x ox C od) (hs : PySem.W.findIn K (.ref C) "__len__" = some (some (.ref f))) (hf : PySem.W.isFn K (.ref f) = true)
    (h : wpAny (model prog w) A.in1 (call (.ref f) [.ref x]) (LenBack Q) E s) : wpAny (model prog w) A (call (.builtin "len") [.ref x]) Q E s := by
  refine Calls.call_function_entry kind_len plain_len entry_len (args_len1 _) ?_
  unfold Builtin.«len»
  refine wpAny_bind (m := oneArg "len" _) (wpAny_pure ?_)
  refine wpAny_bind (m := callSpecial? (.ref x) (PySem.Str.ofString "__len__")) (PySem.W.special_fn X I hs (beq_iff_eq.mp hf) (wpAny_mono h (fun r s' hr => ?_) fun _ _ y => y))
  obtain ⟨i, t, rfl, h0, h1, q⟩ := hr
  refine wpAny_bind (wpAny_holding (wpAny_pure ?_))
  refine wpAny_bind (wpAny_letGo ?_)
  show wpAny _ _ (if i < 0 then _ else _) _ _ _
  rw [if_neg (by omega)]
  show wpAny _ _ (if i ≥ 2 ^ 63 then _ else _) _ _ _
  rw [if_neg (by omega)]
  exact wpAny_bind (wpAny_mkInt (wpAny_pure ⟨_, rfl, q⟩))
theorem ifBound_objNe {args : List Value} {Q : Option Value → Shared → Prop} (X : K.In s.heap) (I : PySem.W.InstAt s.heap x ox C od) (hs : PySem.W.findIn K (.ref C) "__ne__" = some (some (.builtin "object.__ne__")))
    (h : wpAny (model prog w) A (call (.builtin "object.__ne__") (.ref x :: args)) (fun v => Q (some v)) E s) : wpAny (model prog w) A (callSpecialIfBound? (.ref x) "__ne__" args) Q E s := by
  simp only [callSpecialIfBound?, bindSpecialIfBound?]
  refine wpAny_holding (wpAny_bind (wpAny_bind (wpAny_bind (I.type.here ((PySem.W.looks_findIn X hs).here ?_)))))
  refine wpAny_bind (wpAny_askSetting (wpAny_ite ?_))
  have fin : wpAny (model prog w) A (call (.builtin "object.__ne__") ([.ref x] ++ args) >>= fun v => pure (some v)) Q E s := wpAny_bind (wpAny_mono h (fun v s' h' => wpAny_pure h') fun _ _ h' => h')
  split
  · exact wpAny_bind (wpAny_of_eq (F.cmp_object.ne.bind _) (wpAny_pure (by exact fin)))
  · exact wpAny_tryCatch (wpAny_bind (wpAny_of_eq (F.cmp_object.ne.bind _) (wpAny_pure (by exact fin))))
def NeBack (Q : Value → Shared → Prop) (v : Value) (s' : Shared) : Prop := ∃ k : Bool, v = .bool k ∧ Q (.bool (!k)) s'
theorem ne_entry {Q : Fin → Shared → Prop} (hu : A.units < cLine) (X : K.In s.heap) (I : PySem.W.InstAt s.heap x ox C od) (hs : PySem.W.findIn K (.ref C) "__eq__" = some (some (.ref f))) (hf : PySem.W.isFn K (.ref f) = true)
    (h : wpAny (model prog w) A (call (.ref f) [.ref x, b]) (fun v s' => ∃ k : Bool, v = .bool k ∧ Q (.done (.ret (.bool (!k)))) s') E s) : wpAny (model prog w) A (Builtin.«object.__ne__» ⟨[.ref x, b], []⟩) Q E s := by
  unfold Builtin.«object.__ne__»
  refine wpAny_bind (wpAny_pure ?_)
  refine wpAny_bind (wpAny_cRoomFor hu ?_)
  refine wpAny_bind (PySem.W.ifBound_K X I hs hf (wpAny_mono h (fun v s' hv => ?_) fun _ _ e => e))
  obtain ⟨k, rfl, q⟩ := hv
  exact wpAny_bind (wpAny_pure (wpAny_pure q))
theorem call_objNe {Q : Value → Shared → Prop} (hu : A.in1.units < cLine) (X : K.In s.heap) (I : PySem.W.InstAt s.heap x ox C od) (hm : PySem.W.mroIn K C (.type "object") = some true) (hs : PySem.W.findIn K (.ref C) "__eq__" = some (some (.ref f))) (hf : PySem.W.isFn K (.ref f) = true)
    (h : wpAny (model prog w) A.in1 (call (.ref f) [.ref x, b]) (NeBack Q) E s) : wpAny (model prog w) A (call (.builtin "object.__ne__") [.ref x, b]) Q E s :=
  wpAny_call (codeAny_call_builtin F.cmp_object.ne.plain F.cmpEntry_ne (PySem.W.check_slot F.cmpKind_ne F.cmpSplit_ne (I.type.andThen (PySem.W.looks_mroIn X hm)) (F.cmpArgs_ne _ _) (ne_entry hu X I hs hf (wpAny_mono h (fun v s' z => z) fun _ _ z => z))))
theorem ne_own {Q : Value → Shared → Prop} {tb : Value} (hu : A.units < cLine) (hu1 : A.in1.units < cLine) (X : K.In s.heap) (I : PySem.W.InstAt s.heap x ox C od) (hb : PySem.W.Looks (model prog w) s.heap (typeOf b) tb) (hn : PySem.W.notFirst K C tb = true)
    (hm : PySem.W.mroIn K C (.type "object") = some true) (hne : PySem.W.findIn K (.ref C) "__ne__" = some (some (.builtin "object.__ne__"))) (hs : PySem.W.findIn K (.ref C) "__eq__" = some (some (.ref f))) (hf : PySem.W.isFn K (.ref f) = true)
    (h : wpAny (model prog w) A.in1 (call (.ref f) [.ref x, b]) (NeBack Q) E s) : wpAny (model prog w) A (richCompare .NotEq (.ref x) b) Q E s := by
  have one : wpAny (model prog w) A (tryCompare (.ref x) (cmpInfo .NotEq).2.1 b) (fun r s' => ∃ v, r = some v ∧ Q v s') E s := by
    unfold tryCompare
    refine wpAny_bind (ifBound_objNe X I hne (call_objNe hu1 X I hm hs hf (wpAny_mono h (fun v s' hv => ?_) fun _ _ e => e)))
    obtain ⟨k, rfl, q⟩ := hv
    exact ⟨k, rfl, wpAny_pure ⟨_, rfl, q⟩⟩
  unfold richCompare
  simp only [oneThing_ref]
  refine wpAny_holding (wpAny_bind (wpAny_cRoomFor hu ?_))
  refine wpAny_bind (I.type.here (wpAny_bind (hb.here ?_)))
  split
  · rename_i q
    have e : PySem.W.subIn K tb (.ref C) = some false := by
      rcases Bool.or_eq_true_iff.mp hn with e | e
      · rw [beq_iff_eq.mp e] at q; simp at q
      · exact beq_iff_eq.mp e
    refine wpAny_bind ((PySem.W.looks_subIn X e).here ?_)
    simp only [Bool.false_eq_true, if_false]
    refine wpAny_bind (wpAny_mono one (fun r s' z => ?_) fun _ _ e => e)
    obtain ⟨v, rfl, hq⟩ := z
    exact wpAny_pure hq
  · refine wpAny_bind (wpAny_pure ?_)
    simp only [Bool.false_eq_true, if_false]
    refine wpAny_bind (wpAny_mono one (fun r s' z => ?_) fun _ _ e => e)
    obtain ⟨v, rfl, hq⟩ := z
    exact wpAny_pure hq
end
section
variable {X : Cx} {k : Nat} {f C : Addr} {fd : FuncData} {ps : List Str} {sp : Sp}
def rLenO (K : PySem.W.Frag) (C : Addr) (sp : Sp) : CR1 := fun xs H Q => ∃ a dx fs, xs = [.ref a] ∧ H a = some (.ins C dx fs) ∧ sp [.ref a] H (fun v H' => ∃ i : Int, v = .int i ∧ 0 ≤ i ∧ i < 2 ^ 63 ∧ Q (.int i) H') (fun _ _ _ => False)
theorem c_lenO (F : FnG X.prog X.w X.K X.mg X.base (L2.CX X.prog X.w) k f fd ps sp) (hgd : X.A.guards = some []) (hr : Room (k + 1) X.A) (hs : PySem.W.findIn X.K (.ref C) "__len__" = some (some (.ref f))) (hf : PySem.W.isFn X.K (.ref f) = true) (hb : Binds X.K fd ps []) :
    CallR X (.builtin "len") (rLenO X.K C sp) := by
  intro pins s σ H xs us Q I r h
  obtain ⟨a, dx, fs, rfl, ha, hp⟩ := h
  obtain ⟨u, rfl, rv⟩ := vals1 r
  cases (show u = Value.ref a from rv)
  obtain ⟨mA, J, _⟩ := ins_get I.hok ha
  obtain ⟨od, J, _⟩ := J.look
  refine len_own I.kIn J hs hf ?_
  refine wpAny_mono (callG_at (A := X.A.in1) F hgd hr.in1 rfl hb I (.cons (show RelV (.ref a) (.ref a) from rfl) .nil) hp) (fun rr s' q => ?_) fun _ _ z => z
  obtain ⟨w, H', I', rw', i, ew, h0, h1, q'⟩ := q
  subst ew
  obtain ⟨tk, rfl⟩ := (show ∃ tk, rr = .int i tk from rw')
  exact ⟨i, tk, rfl, h0, h1, .int i, H', I'.tok _, ⟨_, rfl⟩, q'⟩
def rNeO (K : PySem.W.Frag) (C : Addr) (sp : Sp) : R2 := fun x y H Q => ∃ a dx fs t, x = .ref a ∧ H a = some (.ins C dx fs) ∧ TyZ K H y t ∧ PySem.W.notFirst K C t = true ∧ sp [x, y] H (fun v H' => ∃ b, v = .bl b ∧ Q (.bl (!b)) H') (fun _ _ _ => False)
theorem op_neO (F : FnG X.prog X.w X.K X.mg X.base (L2.CX X.prog X.w) k f fd ps sp) (hgd : X.A.guards = some []) (hr : Room (k + 1) X.A) (hm : PySem.W.mroIn X.K C (.type "object") = some true) (hne : PySem.W.findIn X.K (.ref C) "__ne__" = some (some (.builtin "object.__ne__")))
    (hs : PySem.W.findIn X.K (.ref C) "__eq__" = some (some (.ref f))) (hf : PySem.W.isFn X.K (.ref f) = true) (hb : Binds X.K fd ps []) : OpR X (compareOp .NotEq) (rNeO X.K C sp) := by
  intro pins s σ H x y v u Q I rx ry h
  obtain ⟨a, dx, fs, t, rfl, ha, ty, hn, hp⟩ := h
  cases rx
  obtain ⟨mA, J, _⟩ := ins_get I.hok ha
  obtain ⟨od, J, _⟩ := J.look
  show wpAny _ _ (richCompare .NotEq (.ref a) u) _ _ _
  refine ne_own hr.units0 hr.in1.units0 I.kIn J (tyx_looks I ry ty) hn hm hne hs hf ?_
  refine wpAny_mono (callG_at (A := X.A.in1) F hgd hr.in1 rfl hb I (vs := [.ref a, y]) (.cons (show RelV (.ref a) (.ref a) from rfl) (.cons ry .nil)) hp) (fun rr s' q => ?_) fun _ _ z => z
  obtain ⟨w, H', I', rw', b, ew, q'⟩ := q
  subst ew
  cases rw'
  exact ⟨b, rfl, .bl (!b), H', I', rfl, q'⟩
end
section
variable {c : Ctx} {ρ : Rho} {S : Sto} {F : D → Sto → Prop}
theorem rv_neO {x y : D} {t : Value} {C : Addr} {fs : List (Str × D)} {p : Pt} (i : IsI S x C fs) (o : OfC c.K S y t) (hn : PySem.W.notFirst c.K C t = true) (h : p [x, y] S (fun d S' => ∃ b, d = .bl b ∧ F (.bl (!b)) S') noY) : RV c (rNeO c.K C (spOf c.K p)) x y S F := fun T u w H cl r1 r2 Q k => by
  obtain ⟨a, dx, fv, rfl, ha, rf⟩ := i.rd cl r1
  refine ⟨a, dx, fv, t, rfl, ha, o.ok cl r2, hn, ⟨[x, y], S, T, _, noY, .cons r1 (.cons r2 .nil), cl, h, ?_, fun _ _ _ _ _ _ _ _ _ z => z.elim⟩⟩
  rintro v d S' T' H' m cl' r' ⟨b, rfl, q⟩
  cases r'
  exact ⟨b, rfl, k _ _ S' T' H' m cl' (.bl _) q⟩
theorem rc_lenO {x : D} {C : Addr} {fs : List (Str × D)} {p : Pt} (i : IsI S x C fs) (h : p [x] S (fun d S' => ∃ n : Int, d = .int n ∧ 0 ≤ n ∧ n < 2 ^ 63 ∧ F (.int n) S') noY) : RC c (rLenO c.K C (spOf c.K p)) [x] S F := fun T us H cl r Q k => by
  cases r with
  | cons r1 r =>
    cases r
    obtain ⟨a, dx, fv, rfl, ha, rf⟩ := i.rd cl r1
    refine ⟨a, dx, fv, rfl, ha, ⟨[x], S, T, _, noY, .cons r1 .nil, cl, h, ?_, fun _ _ _ _ _ _ _ _ _ z => z.elim⟩⟩
    rintro v d S' T' H' m cl' r' ⟨n, rfl, h0, h1, q⟩
    cases r'
    exact ⟨n, rfl, h0, h1, k _ _ S' T' H' m cl' (.int n) q⟩
end
end VS
namespace VS
open PySem L2 C8
end VS
namespace VS
open PySem L2 C8 PySem.Spec PyProof.Rows
/-! ### == with an empty list, an empty tuple -/
def rEqE (K : PySem.W.Frag) : R2 := fun x y H Q => ∃ a b xs, x = .ref a ∧ y = .ref b ∧ ((SqL K H a xs ∧ SqL K H b []) ∨ (SqT K H a xs ∧ SqT K H b [])) ∧ Q (.bl xs.isEmpty) H
section
variable {c : Ctx} {S : Sto} {F : D → Sto → Prop}
theorem rv_eqEL {x : D} {xs : List D} (h : IsL S x xs) (q : F (.bl xs.isEmpty) S) : RV c (rEqE c.K) x (.lst []) S F := fun T u w H cl r1 r2 Q k => by
  obtain ⟨a, us, rfl, s1, rr⟩ := h.rd cl r1
  obtain ⟨b, ws, rfl, s2, rr2⟩ := (IsL.v (S := S) (ds := [])).rd cl r2
  cases rr2
  refine ⟨a, b, us, rfl, rfl, .inl ⟨s1, s2⟩, ?_⟩
  have e : us.isEmpty = xs.isEmpty := by cases rr <;> rfl
  rw [e]
  exact k _ _ S T H Mv.refl cl (.bl _) q
theorem rv_eqET {xs : List D} (q : F (.bl xs.isEmpty) S) : RV c (rEqE c.K) (.tup xs) (.tup []) S F := fun T u w H cl r1 r2 Q k => by
  obtain ⟨a, us, rfl, s1, rr⟩ := r1.seqT
  obtain ⟨b, ws, rfl, s2, rr2⟩ := r2.seqT
  cases rr2
  refine ⟨a, b, us, rfl, rfl, .inr ⟨s1, s2⟩, ?_⟩
  have e : us.isEmpty = xs.isEmpty := by cases rr <;> rfl
  rw [e]
  exact k _ _ S T H Mv.refl cl (.bl _) q
end
end VS
namespace VS
open PySem L2 C8 PySem.Spec PyProof.Rows
def rNeE (K : PySem.W.Frag) : R2 := fun x y H Q => ∃ a b xs, x = .ref a ∧ y = .ref b ∧ ((SqL K H a xs ∧ SqL K H b []) ∨ (SqT K H a xs ∧ SqT K H b [])) ∧ Q (.bl (!xs.isEmpty)) H
theorem op_neE {X : Cx} {k : Nat} (hr : Room k X.A) : OpR X (compareOp .NotEq) (rNeE X.K) := by
  intro pins s σ H x y v u Q I rx ry h
  obtain ⟨a, b, xs, rfl, rfl, hq, q⟩ := h
  cases rx
  cases ry
  show wpAny _ _ (richCompare .NotEq (.ref a) (.ref b)) _ _ _
  rcases hq with ⟨h1, h2⟩ | ⟨h1, h2⟩
  · obtain ⟨its, rv, p, _⟩ := I.list h1
    obtain ⟨its2, rv2, p2, _⟩ := I.list h2
    cases rv2
    cases rv with
    | nil => exact SeqAt.RcNeAt.lists (e := fun _ => true) p.isList p2.isList rfl hr.units0 (fun j h => absurd h (by simp)) _ _ _ _ ⟨.bl false, H, I, rfl, q⟩
    | cons r rs => exact SeqAt.RcNeAt.lists_lengths p.isList p2.isList (by simp) hr.units0 _ _ _ _ ⟨.bl true, H, I, rfl, q⟩
  · obtain ⟨its, rv, p, _⟩ := I.tuple h1
    obtain ⟨its2, rv2, p2, _⟩ := I.tuple h2
    cases rv2
    have e : (!((List.range (min its.toArray.size ([] : List Value).toArray.size)).all (fun _ => true) && its.toArray.size == ([] : List Value).toArray.size)) = !xs.isEmpty := by
      cases rv with
      | nil => rfl
      | cons r rs => simp
    refine SeqAt.RcNeAt.tuples (e := fun _ => true) (show s.heap.IsTuple a its.toArray from p) (show s.heap.IsTuple b _ from p2) hr.units0 (fun j _ h => absurd h (by simp)) _ _ _ _ ?_
    rw [e]
    exact ⟨.bl (!xs.isEmpty), H, I, rfl, q⟩
section
variable {c : Ctx} {S : Sto} {F : D → Sto → Prop}
theorem rv_neEL {x : D} {xs : List D} (h : IsL S x xs) (q : F (.bl (!xs.isEmpty)) S) : RV c (rNeE c.K) x (.lst []) S F := fun T u w H cl r1 r2 Q k => by
  obtain ⟨a, us, rfl, s1, rr⟩ := h.rd cl r1
  obtain ⟨b, ws, rfl, s2, rr2⟩ := (IsL.v (S := S) (ds := [])).rd cl r2
  cases rr2
  refine ⟨a, b, us, rfl, rfl, .inl ⟨s1, s2⟩, ?_⟩
  have e : us.isEmpty = xs.isEmpty := by cases rr <;> rfl
  rw [e]
  exact k _ _ S T H Mv.refl cl (.bl _) q
theorem rv_neET {xs : List D} (q : F (.bl (!xs.isEmpty)) S) : RV c (rNeE c.K) (.tup xs) (.tup []) S F := fun T u w H cl r1 r2 Q k => by
  obtain ⟨a, us, rfl, s1, rr⟩ := r1.seqT
  obtain ⟨b, ws, rfl, s2, rr2⟩ := r2.seqT
  cases rr2
  refine ⟨a, b, us, rfl, rfl, .inr ⟨s1, s2⟩, ?_⟩
  have e : us.isEmpty = xs.isEmpty := by cases rr <;> rfl
  rw [e]
  exact k _ _ S T H Mv.refl cl (.bl _) q
end
end VS
namespace VS
open PySem L2 C8 PySem.Spec PyProof.Rows
/-! ### == with an own instance on the right -/
section
variable {X : Cx} {pins : List (Addr × Obj)} {σ : L2.St} {H : Hp} {s : Shared}
theorem tyx_is {x : V} {u : Value} {T : String} (I : Inv X pins σ H s) (rx : RelV x u) (ty : TyX X.K H x (.type T)) : s.TypeIs u T := by
  cases ty with
  | base b =>
    cases b with
    | non => cases (show u = Value.none from rx); exact rfl
    | bl y => cases (show u = Value.bool y from rx); exact rfl
    | int i => obtain ⟨t, q⟩ := (show ∃ t, u = Value.int i t from rx); cases q; exact rfl
    | str y => obtain ⟨t, q⟩ := (show ∃ t, u = Value.str y t from rx); cases q; exact rfl
    | flt y => obtain ⟨t, q⟩ := (show ∃ t, u = Value.float y t from rx); cases q; exact rfl
    | @lst a xs ea =>
      cases (show u = Value.ref a from rx)
      obtain ⟨_, _, n, _, h1⟩ := (show ObjOk X.prog X.w H s.heap a (.lst xs) from I.hok a _ ea)
      exact ⟨_, h1, rfl⟩
    | @frz a ob xs ea =>
      cases (show u = Value.ref a from rx)
      obtain ⟨_, _, _, n, _, h1⟩ := (show ObjOk X.prog X.w H s.heap a (.frz ob (.lst xs)) from I.hok a _ ea)
      exact ⟨_, h1, rfl⟩
    | @tup a xs ea =>
      cases (show u = Value.ref a from rx)
      obtain ⟨_, _, _, o, h1, h2, _⟩ := (show ObjOk X.prog X.w H s.heap a (.tup xs) from I.hok a _ ea)
      exact ⟨o, h1, h2⟩
    | @dK a kvs ea =>
      cases (show u = Value.ref a from rx)
      obtain ⟨_, _, vs, _, o, es, ep, h1, h2, _⟩ := (show ObjOk X.prog X.w H s.heap a (.dK kvs) from I.hok a _ ea)
      exact ⟨o, h1, h2.1⟩
    | @dT a kvs ea =>
      cases (show u = Value.ref a from rx)
      obtain ⟨_, _, xs, _, o, es, ep, h1, h2, _⟩ := (show ObjOk X.prog X.w H s.heap a (.dT kvs) from I.hok a _ ea)
      exact ⟨o, h1, h2.1⟩
  | byt y => obtain ⟨t, q⟩ := (show ∃ t, u = Value.bytes y t from rx); cases q; exact rfl
  | @set a S n ea =>
    cases (show u = Value.ref a from rx)
    obtain ⟨o, _, _, _, e, ex, _⟩ := I.hok a _ ea
    exact ⟨o, e, ex.1⟩
  | @kList a o e c =>
    cases (show u = Value.ref a from rx)
    exact ⟨o, I.kIn a o e, c⟩
  | @kTuple a o e c =>
    cases (show u = Value.ref a from rx)
    exact ⟨o, I.kIn a o e, c⟩
  | @kDict a o e c =>
    cases (show u = Value.ref a from rx)
    exact ⟨o, I.kIn a o e, c⟩
  | @fTuple a ob xs ea =>
    cases (show u = Value.ref a from rx)
    obtain ⟨_, _, _, _, o, h1, h2, _⟩ := (show ObjOk X.prog X.w H s.heap a (.frz ob (.tup xs)) from I.hok a _ ea)
    exact ⟨o, h1, h2⟩
  | @fDict a ob kvs ea =>
    cases (show u = Value.ref a from rx)
    obtain ⟨_, _, _, vs, _, o, es, ep, h1, h2, _⟩ := (show ObjOk X.prog X.w H s.heap a (.frz ob (.dK kvs)) from I.hok a _ ea)
    exact ⟨o, h1, h2.1⟩
end
section
variable {x C dx : Addr} {K : PySem.W.Frag} {od : Option Obj}
abbrev InsS (K : PySem.W.Frag) (x C dx : Addr) (T : String) : PySem.Spec := fun _ R s => K.In s.heap ∧ s.heap.get? x = some (PySem.W.instObj C dx) ∧ PySem.W.subIn K (.ref C) (.type T) = some false ∧ R (.ok (.ret .notImplemented)) s
theorem insS_looks {M : Model} {h : Heap} {T : String} (X : K.In h) (e : h.get? x = some (PySem.W.instObj C dx)) (sub : PySem.W.subIn K (.ref C) (.type T) = some false) : PySem.W.Looks M h (isInstance (.ref x) (.type T)) false :=
  ((PySem.W.Looks.ld e).andThen .now).andThen (PySem.W.looks_subIn X sub)
theorem int_decl (b : Int) (t : Tok) : Meets (Builtin.«int.__eq__» ⟨[.int b t, .ref x], []⟩) (InsS K x C dx "int") :=
  .of_wp fun prog w A R s h => by obtain ⟨hp, g, d, tk, os⟩ := s; obtain ⟨_, hl, _, h⟩ := h; unfold PySem.W.instObj at hl; wp_walk using AutoSeq1.wpAny_loadPart' hl, wpAny_load hl; exact ⟨_, rfl, h⟩
theorem bool_decl (b : Bool) : Meets (Builtin.«int.__eq__» ⟨[.bool b, .ref x], []⟩) (InsS K x C dx "bool") :=
  .of_wp fun prog w A R s h => by obtain ⟨hp, g, d, tk, os⟩ := s; obtain ⟨_, hl, _, h⟩ := h; unfold PySem.W.instObj at hl; wp_walk using AutoSeq1.wpAny_loadPart' hl, wpAny_load hl; exact ⟨_, rfl, h⟩
theorem str_decl (b : Str) (t : Tok) : Meets (Builtin.«str.__eq__» ⟨[.str b t, .ref x], []⟩) (InsS K x C dx "str") :=
  .of_wp fun prog w A R s h => by obtain ⟨hp, g, d, tk, os⟩ := s; obtain ⟨_, hl, _, h⟩ := h; unfold PySem.W.instObj at hl; wp_walk using AutoSeq1.wpAny_loadPart' hl, wpAny_load hl; exact ⟨_, rfl, h⟩
theorem list_decl (l : Addr) : Meets (Builtin.«list.__eq__» ⟨[.ref l, .ref x], []⟩) (InsS K x C dx "list") :=
  .of_wp fun prog w A R s h => by
    obtain ⟨X, hl, e, h⟩ := h
    have L := insS_looks (M := model prog w) X hl e
    unfold Builtin.«list.__eq__»
    refine wpAny_bind (m := slotArgs "__eq__" 1 _) (wpAny_pure ?_)
    refine wpAny_bind (m := isInstance _ _) (L.here ?_)
    exact wpAny_pure ⟨_, rfl, h⟩
theorem tuple_decl (l : Addr) : Meets (Builtin.«tuple.__eq__» ⟨[.ref l, .ref x], []⟩) (InsS K x C dx "tuple") :=
  .of_wp fun prog w A R s h => by
    obtain ⟨X, hl, e, h⟩ := h
    have L := insS_looks (M := model prog w) X hl e
    unfold Builtin.«tuple.__eq__»
    refine wpAny_bind (m := slotArgs "__eq__" 1 _) (wpAny_pure ?_)
    refine wpAny_bind (m := isInstance _ _) (L.here ?_)
    exact wpAny_pure ⟨_, rfl, h⟩
theorem dict_decl (l : Addr) : Meets (Builtin.«dict.__eq__» ⟨[.ref l, .ref x], []⟩) (InsS K x C dx "dict") :=
  .of_wp fun prog w A R s h => by
    obtain ⟨X, hl, e, h⟩ := h
    have L := insS_looks (M := model prog w) X hl e
    unfold Builtin.«dict.__eq__»
    refine wpAny_bind (m := Builtin.Dict.dictSlotArgs "__eq__" _) (wpAny_pure ?_)
    refine wpAny_bind (m := isInstance _ _) (L.here ?_)
    refine wpAny_bind (wpAny_rule ?_)
    exact wpAny_pure ⟨_, rfl, h⟩
end
section
variable {prog : Program} {w : World} {A : Around} {E : Value → Shared → Prop} {s : Shared} {K : PySem.W.Frag} {x C dx f : Addr} {u : Value} {T : String}
/-- the kinds that decline -/
inductive LKd : Value → String → Prop
  | non : LKd .none "NoneType" | bl (b : Bool) : LKd (.bool b) "bool" | int (i : Int) (t : Tok) : LKd (.int i t) "int" | str (x : Str) (t : Tok) : LKd (.str x t) "str"
  | lst (a : Addr) : LKd (.ref a) "list" | tup (a : Addr) : LKd (.ref a) "tuple" | dct (a : Addr) : LKd (.ref a) "dict"
theorem declines (k : LKd u T) (hT : s.TypeIs u T) (X : K.In s.heap) (hx : s.heap.get? x = some (PySem.W.instObj C dx)) (e : PySem.W.subIn K (.ref C) (.type T) = some false) :
    wpAny (model prog w) A (tryCompare u "__eq__" (.ref x)) (fun r s' => r = none ∧ s' = s) E s := by
  cases k with
  | non => exact wpAny_tryCompare_declines hT F.slot_NoneType_eq_refl (call_gives F.slot_NoneType_eq_refl hT F.entry_NoneType_eq (F.args_NoneType_eq_2 _ _) (SeqAt.NoneType___eq___none_ref_0 x) ⟨rfl, rfl, rfl⟩)
  | bl b => exact wpAny_tryCompare_declines hT F.slot_bool_eq (call_meets F.slot_bool_eq hT F.entry_int_eq (F.args_int_eq_2 _ _) (bool_decl (K := K) (C := C) (dx := dx) b) ⟨X, hx, e, rfl, rfl, rfl⟩)
  | int i t => exact wpAny_tryCompare_declines hT F.slot_int_eq (call_meets F.slot_int_eq hT F.entry_int_eq (F.args_int_eq_2 _ _) (int_decl (K := K) (C := C) (dx := dx) i t) ⟨X, hx, e, rfl, rfl, rfl⟩)
  | str y t => exact wpAny_tryCompare_declines hT F.slot_str_eq (call_meets F.slot_str_eq hT F.entry_str_eq (F.args_str_eq_2 _ _) (str_decl (K := K) (C := C) (dx := dx) y t) ⟨X, hx, e, rfl, rfl, rfl⟩)
  | lst a => exact wpAny_tryCompare_declines hT F.slot_list_eq (call_meets F.slot_list_eq hT F.entry_list_eq (F.args_list_eq_2 _ _) (list_decl (K := K) (C := C) (dx := dx) a) ⟨X, hx, e, rfl, rfl, rfl⟩)
  | tup a => exact wpAny_tryCompare_declines hT F.slot_tuple_eq (call_meets F.slot_tuple_eq hT F.entry_tuple_eq (F.args_tuple_eq_2 _ _) (tuple_decl (K := K) (C := C) (dx := dx) a) ⟨X, hx, e, rfl, rfl, rfl⟩)
  | dct a => exact wpAny_tryCompare_declines hT F.slot_dict_eq (call_meets F.slot_dict_eq hT F.entry_dict_eq (F.args_dict_eq_2 _ _) (dict_decl (K := K) (C := C) (dx := dx) a) ⟨X, hx, e, rfl, rfl, rfl⟩)
/-- == with the own instance asked behind the thing on the left -/
theorem refl_K {ox : Obj} {od : Option Obj} {Q : Value → Shared → Prop} {tu : Value} (hu : A.units < cLine) (X : K.In s.heap) (I : PySem.W.InstAt s.heap x ox C od) (one : oneThing? .Eq u (.ref x) = none)
    (hT : PySem.W.Looks (model prog w) s.heap (typeOf u) tu) (hn : tu ≠ .ref C) (e : PySem.W.subIn K (.ref C) tu = some false)
    (dec : wpAny (model prog w) A (tryCompare u "__eq__" (.ref x)) (fun r s' => r = none ∧ s' = s) E s)
    (hs : PySem.W.findIn K (.ref C) "__eq__" = some (some (.ref f))) (hf : PySem.W.isFn K (.ref f) = true)
    (h : wpAny (model prog w) A (call (.ref f) [.ref x, u]) (PySem.W.CmpBack Q) E s) : wpAny (model prog w) A (richCompare .Eq u (.ref x)) Q E s := by
  have two : wpAny (model prog w) A (tryCompare (.ref x) "__eq__" u) (fun r s' => ∃ v, r = some v ∧ Q v s') E s := by
    unfold tryCompare
    refine wpAny_bind (PySem.W.ifBound_K X I hs hf (wpAny_mono h (fun v s' hv => ?_) fun _ _ e => e))
    cases v <;> first | exact hv.elim | exact wpAny_pure ⟨_, rfl, hv⟩
  simp only [richCompare, cmpInfo_Eq, one]
  refine wpAny_holding (wpAny_bind (wpAny_cRoomFor hu ?_))
  refine wpAny_bind (hT.here (wpAny_bind (I.type.here ?_)))
  split
  · refine wpAny_bind ((PySem.W.looks_subIn X e).here ?_)
    simp only [Bool.false_eq_true, if_false, Bool.not_false, if_true]
    refine wpAny_bind (wpAny_mono dec (fun r s1 z => ?_) fun _ _ e => e)
    obtain ⟨rfl, rfl⟩ := z
    refine wpAny_bind (wpAny_mono two (fun r s1 z => ?_) fun _ _ e => e)
    obtain ⟨v, rfl, hq⟩ := z
    exact wpAny_pure hq
  · rename_i q
    exact absurd (by simpa using hn) q
end
section
variable {X : Cx} {k : Nat} {f C : Addr} {fd : FuncData} {ps : List Str} {sp : Sp}
inductive KdV : V → String → Prop
  | non : KdV .non "NoneType" | bl (b : Bool) : KdV (.bl b) "bool" | int (i : Int) : KdV (.int i) "int" | str (x : Str) : KdV (.str x) "str"
  | lst (a : Addr) : KdV (.ref a) "list" | tup (a : Addr) : KdV (.ref a) "tuple" | dct (a : Addr) : KdV (.ref a) "dict"
theorem KdV.ok {x : V} {u : Value} {T : String} (k : KdV x T) (r : RelV x u) : LKd u T := by
  cases k with
  | non => cases (show u = Value.none from r); exact .non
  | bl b => cases (show u = Value.bool b from r); exact .bl b
  | int i => obtain ⟨t, q⟩ := (show ∃ t, u = Value.int i t from r); cases q; exact .int i t
  | str y => obtain ⟨t, q⟩ := (show ∃ t, u = Value.str y t from r); cases q; exact .str y t
  | lst a => cases (show u = Value.ref a from r); exact .lst a
  | tup a => cases (show u = Value.ref a from r); exact .tup a
  | dct a => cases (show u = Value.ref a from r); exact .dct a
end
end VS
namespace VS
open PySem L2 PySem.Spec PyProof.Rows
/-! ### C(e) as a value, C an own exception class of one field -/
end VS
namespace VS
open PySem L2 C8 PySem.Spec PyProof.Rows
/-! ### reversed(a list by value) -/
end VS
namespace VS
open PySem L2 PySem.Spec PyProof.Rows
/-! ### len(set(texts)) -/
/-- how many unlike ones stand among the first i -/
def unl (xs : List Str) : Nat → Nat
  | 0 => 0
  | i + 1 => bif (xs.take i).any (· == xs.getD i Str.empty) then unl xs i else unl xs i + 1
def inI (xs : List Str) (i : Nat) (k : Str) : Bool := (xs.take i).any (· == k)
theorem unl_le {xs : List Str} : ∀ i, unl xs i ≤ i
  | 0 => Nat.le_refl _
  | i + 1 => by
    have := unl_le (xs := xs) i
    unfold unl
    cases (xs.take i).any (· == xs.getD i Str.empty)
    · simp only [cond_false]; omega
    · simp only [cond_true]; omega
theorem getD_at {xs : List Str} {i : Nat} (h : i < xs.length) : xs.getD i Str.empty = xs[i] := by
  rw [List.getD_eq_getElem?_getD, List.getElem?_eq_getElem h] <;> rfl
theorem inI_put {xs : List Str} {i : Nat} (h : i < xs.length) (k : Str) : (inI xs i k || decide (k = xs.getD i Str.empty)) = inI xs (i + 1) k := by
  unfold inI
  rw [List.take_add_one, List.getElem?_eq_getElem h, getD_at h, List.any_append]
  congr 1
  show decide (k = xs[i]) = ((xs[i] == k) || false)
  rw [Bool.or_false]
  by_cases e : k = xs[i]
  · subst e; simp
  · rw [decide_eq_false e]; exact (beq_eq_false_iff_ne.mpr (Ne.symm e)).symm
section
variable {prog : Program} {w : World} {A : Around} {E : Value → Shared → Prop} {s : Shared}
abbrev HasT (prog : Program) (w : World) (h : Heap) (a : Addr) (xs : List Str) (i : Nat) : Prop := h.SetOf (PySem.strKind prog w) a (inI xs i) (unl xs i)
theorem HasT.keep {h h' : Heap} {a : Addr} {xs : List Str} {i : Nat} (t : HasT prog w h a xs i) (k : ∀ o, h.get? a = some o → h'.get? a = some o) : HasT prog w h' a xs i := by
  obtain ⟨o, es, ep, t, g, r⟩ := t
  exact ⟨o, es, ep, t, k _ g, r⟩
theorem put_each {R : Result → Shared → Prop} {I : Addr} {fp wr : List Addr} {G : Array GenState → Array GenState → Prop} {n : Nat} {P : Nat → Value → Prop} {St : Nat → Shared → Prop}
    (W : WalksS prog w A.in1 I fp wr G n P St) {a : Addr} (na : a ∉ fp) {xs : List Str} (le : xs.length = n) (sm : n + 1 < scanBound) (vl : ∀ i v, P i v → ∃ t, v = .str (xs.getD i Str.empty) t) (k : Nat) :
    ∀ (i : Nat) (s : Shared), i + k = n → St i s → HasT prog w s.heap a xs i → (∀ s', Moved (a :: wr) G s s' → HasT prog w s'.heap a xs n → R (.ok (.ret .none)) s') →
      codeAny (model prog w) A (.builtin "set.update.loop" ⟨[.ref a, .ref I], []⟩) R s := by
  have nw : a ∉ wr := fun z => na (W.sub a z)
  have wide : ∀ {x y : Shared}, Moved wr G x y → Moved (a :: wr) G x y := fun m => ⟨fun b o z => m.heap b o fun y => z (.tail _ y), m.gens, m.drawn, m.os, m.toks⟩
  induction k with
  | zero =>
    intro i s e st t q
    obtain rfl : i = n := e
    refine codeAny_builtin F.entry_set_update_loop ?_
    rw [Around.under_plainId F.plain_set_update_loop _]
    exact wpAny_bind (m := pyNext (.ref I)) (W.done s _ _ st fun s' m => wpAny_pure (q s' (wide m) (t.keep fun o => m.heap a o nw)))
  | succ k ih =>
    intro i s e st t q
    have lt : i < n := by omega
    refine codeAny_builtin F.entry_set_update_loop ?_
    rw [Around.under_plainId F.plain_set_update_loop _]
    refine wpAny_bind (m := pyNext (.ref I)) (W.item i s _ _ lt st fun v s1 p1 st1 m1 => ?_)
    obtain ⟨tk, rfl⟩ := vl i v p1
    have t1 : HasT prog w s1.heap a xs i := t.keep fun o => m1.heap a o nw
    have up := unl_le (xs := xs) i
    show wpAny _ A.in1 (holding _ (setAdd a (.str (xs.getD i Str.empty) tk)) >>= _) _ _ s1
    refine wpAny_bind (wpAny_holding ?_)
    unfold setAdd
    refine wpAny_holding (wpAny_bind ((PySem.strKind prog w).pyHash (k := xs.getD i Str.empty) (strKind_is _ _ _ _) ?_))
    refine wpAny_setAddHashed_of (knd := PySem.strKind prog w) (s := { s1 with toks := s1.toks + 1 }) (strKind_is _ _ _ _) rfl t1 (by omega) fun h2 sb t2 => ?_
    have t3 : HasT prog w h2 a xs (i + 1) := SetOf_congr t2 (inI_put (by omega)) (by show (if inI xs i _ = true then _ else _) = bif inI xs i _ then _ else _; cases inI xs i (xs.getD i Str.empty) <;> rfl)
    have away : ∀ b, b ≠ a → ∀ o, s1.heap.get? b = some o → h2.get? b = some o := fun b ne o z => by rw [sb.2 b ne]; exact z
    refine wpAny_pure ⟨plainId_quiet F.plain_set_update_loop _, ih (i + 1) _ (by omega) (W.frame _ s1 _ _ st1 (Nat.le_succ _) fun b hb o z => away b (fun y => na (y ▸ hb)) o z) t3 fun s4 m4 t4 => ?_⟩
    exact q s4 (Moved.trans W.gtrans ((wide m1).then_heap (Nat.le_succ _) fun b o hb z => away b (fun y => hb (y ▸ .head _)) o z) m4) t4
abbrev set0 (led : Bool) : Obj := { cls := .type "set", dict := none, data := .set #[] 0 (.fresh 0 0 led) }
theorem has0 {h : Heap} {a : Addr} {led : Bool} {xs : List Str} (g : h.get? a = some (set0 led)) : HasT prog w h a xs 0 := SetOf_congr ((setObjOf_fresh (knd := PySem.strKind prog w) led).setOf g (by decide)) (fun _ => rfl) rfl
theorem strs_get : ∀ {us : List Value} {xs : List Str}, StrsAre us xs → ∀ (i : Nat) (v : Value), us[i]? = some v → ∃ t, v = .str (xs.getD i Str.empty) t
  | _, _, .nil, i, v, h => by simp at h
  | _, _, .cons y t r, 0, v, h => ⟨t, (Option.some.inj h).symm⟩
  | _, _, .cons y t r, i + 1, v, h => strs_get r i v h
theorem iter_fill {l a : Addr} {its : Array Value} {xs : List Str} {led : Bool} {Q : Value → Shared → Prop} (hh : A.handled = none) (src : s.heap.IsList l its ∨ s.heap.IsTuple l its) (ts : StrsAre its.toList xs) (sm : its.size + 1 < scanBound)
    (ga : s.heap.get? a = some (set0 led)) (q : ∀ h' tk, HasT prog w h' a xs its.size → (∀ b o, b ≠ a → s.heap.get? b = some o → h'.get? b = some o) → Q .none { s with heap := h', toks := tk }) :
    wpAny (model prog w) A (pyIter (.ref l)) (fun it s1 => wpAny (model prog w) A (runValue (.builtin "set.update.loop" ⟨[.ref a, it], []⟩)) Q E s1) E s := by
  have len : xs.length = its.size := by rw [← StrsAre.len_eq ts, Array.length_toList]
  have la : a < s.heap.objs.size := Heap.lt_size ga
  have ll : l < s.heap.objs.size := by rcases src with ⟨o, g, _⟩ | ⟨o, g, _⟩ <;> exact Heap.lt_size g
  have nl : a ≠ l := fun z => by
    subst z
    rcases src with ⟨o, g, c, _⟩ | ⟨o, g, c, _⟩ <;>
    · rw [ga] at g
      cases g
      exact absurd (Value.type.inj c) (by decide)
  have vl : ∀ (i : Nat) (v : Value), its[i]? = some v → ∃ t, v = .str (xs.getD i Str.empty) t := fun i v hv => strs_get ts i v (by rw [Array.getElem?_toList]; exact hv)
  have nw : a ≠ s.heap.objs.size := Nat.ne_of_lt la
  have na : a ∉ [s.heap.objs.size, l] := fun z => by
    rcases List.mem_cons.mp z with z | z
    · exact nw z
    · exact nl (by simpa using z)
  have h1 : A.in1.handled = none := by simpa using hh
  have fin : ∀ (o : Obj) {P : Nat → Value → Prop} {St : Nat → Shared → Prop} {G : Array GenState → Array GenState → Prop}, WalksS prog w A.in1 s.heap.objs.size [s.heap.objs.size, l] [s.heap.objs.size] G its.size P St → (∀ x y, G x y → y = x) → (∀ i v, P i v → its[i]? = some v) →
      St 0 { s with heap := s.heap.push o } → wpAny (model prog w) A (runValue (.builtin "set.update.loop" ⟨[.ref a, .ref s.heap.objs.size], []⟩)) Q E { s with heap := s.heap.push o } := fun o P St G W eg pv st => by
    refine wpAny_runValue (put_each W na len sm (fun i v z => vl i v (pv i v z)) its.size 0 _ (Nat.zero_add _) st (has0 (led := led) (Heap.get?_push_of_some _ ga)) fun s' m t => ?_)
    obtain ⟨h', g', d', tk', os'⟩ := s'
    have e1 : g' = s.gens := eg _ _ m.gens
    have e2 : d' = s.drawn := m.drawn
    have e3 : os' = s.os := m.os
    subst e1; subst e2; subst e3
    refine q h' tk' t fun b o' nb z => m.heap b o' (fun y => ?_) (Heap.get?_push_of_some _ z)
    rcases List.mem_cons.mp y with y | y
    · exact nb y
    · have : b < s.heap.objs.size := Heap.lt_size z
      have e : b = s.heap.objs.size := by simpa using y
      exact absurd e (Nat.ne_of_lt this)
  rcases src with src | src
  · refine wpAny_pyIter_list src ?_
    exact fin _ (Walks.list h1 _ l (Nat.ne_of_lt ll) its).toS (fun _ _ e => e) (fun _ _ e => e) ⟨⟨_, Heap.get?_push_size _ rfl, rfl, rfl⟩, src.push _⟩
  · refine wpAny_pyIter_tuple src ?_
    exact fin _ (Walks.tuple h1 _ l (Nat.ne_of_lt ll) its).toS (fun _ _ e => e) (fun _ _ e => e) ⟨⟨_, Heap.get?_push_size _ rfl, rfl, rfl⟩, src.push _⟩
theorem set_made {l : Addr} {its : Array Value} {xs : List Str} {Q : Value → Shared → Prop} (hh : A.handled = none) (src : s.heap.IsList l its ∨ s.heap.IsTuple l its) (ts : StrsAre its.toList xs) (sm : its.size + 1 < scanBound)
    (q : ∀ h' tk, HasT prog w h' s.heap.objs.size xs its.size → (∀ b o, s.heap.get? b = some o → h'.get? b = some o) → Q (.ref s.heap.objs.size) { s with heap := h', toks := tk }) : wpAny (model prog w) A (call (.type "set") [.ref l]) Q E s := by
  obtain ⟨c, tl, mro⟩ := PySem.F.called_set.mro
  have f1 := PySem.F.called_set.made
  have f2 := PySem.F.called_set.sub
  have f3 := PySem.F.called_set.notType
  have f4 := PySem.F.called_set.canCreate
  have f5 := PySem.F.typeCall_set_1 (.ref l)
  refine wpAny_call (codeAny_of_tree ?_)
  show wpAny _ _ (callAny (.type "set") _) _ _ _
  refine wpAny_pure ⟨Code.quiet_builtin _ (by decide +kernel), codeAny_builtin PySem.F.entry_type_call ?_⟩
  rw [Around.under_plain (weight_type_call_type "set" [.ref l] []) rfl]
  repeat (any_goals (first | assumption | wp_step))
  refine codeAny_mono (code_set_new_1 (.ref l) (E := E) (Q₁ := fun v s1 => ∃ led, v = .ref s.heap.objs.size ∧ s1 = { s with heap := s.heap.push (set0 led) }) fun led => ⟨led, rfl, rfl⟩) fun r s1 hr => ?_
  rcases r with e | fl
  · exact hr
  cases fl <;> first | exact hr.elim | skip
  obtain ⟨led, rfl, rfl⟩ := hr
  have g0 : (s.heap.push (set0 led)).get? s.heap.objs.size = some (set0 led) := Heap.get?_push_size _ rfl
  have ty : Shared.TypeIs { s with heap := s.heap.push (set0 led) } (.ref s.heap.objs.size) "set" := ⟨_, g0, rfl⟩
  have i1 := PySem.F.called_set.init.lookup
  have i2 := PySem.F.called_set.init.bind (.ref s.heap.objs.size)
  have la : ∀ b o, s.heap.get? b = some o → b ≠ s.heap.objs.size := fun b o z => Nat.ne_of_lt (Heap.lt_size z)
  have src2 : (s.heap.push (set0 led)).IsList l its ∨ (s.heap.push (set0 led)).IsTuple l its := src.imp (·.push _) (·.push _)
  repeat (any_goals (first | assumption | wp_step))
  refine codeAny_mono (codeAny_call_builtin (R := wants (fun v s2 => v = .none ∧ ∃ h' tk, s2 = { s with heap := h', toks := tk } ∧ HasT prog w h' s.heap.objs.size xs its.size ∧ ∀ b o, s.heap.get? b = some o → h'.get? b = some o) E)
    PySem.F.called_set.init.plain PySem.F.entry_set_init (check_set_init_1 ty ?_)) fun r2 s2 hr2 => ?_
  · unfold Builtin.«set.__init__» noKeywords Builtin.Frozenset.updateFrom
    generalize hz : pyIter = Z
    have h2 : A.in1.in1.handled = none := by simpa using hh
    have fin : wpAny (model prog w) A.in1.in1 (pyIter (.ref l)) (fun it s1 => wpAny (model prog w) A.in1.in1 (runValue (.builtin "set.update.loop" ⟨[.ref s.heap.objs.size, it], []⟩)) (fun v s2 => v = .none ∧ ∃ h' tk, s2 = { s with heap := h', toks := tk } ∧ HasT prog w h' s.heap.objs.size xs its.size ∧ ∀ b o, s.heap.get? b = some o → h'.get? b = some o) E s1) E { s with heap := s.heap.push (set0 led) } :=
      iter_fill (led := led) h2 src2 ts sm g0 fun h' tk t k => ⟨rfl, h', tk, rfl, t, fun b o z => k b o (la b o z) (Heap.get?_push_of_some _ z)⟩
    rw [hz] at fin
    have kind : ∃ (T : String) (od : Option Addr) (n : Nat) (oz : Array (Option Value)), (s.heap.push (set0 led)).get? l = some ⟨.type T, od, .seq its n, oz⟩ ∧ isSubtype (.type T) (.type "set") = pure false ∧ isSubtype (.type T) (.type "frozenset") = pure false ∧ (Value.type T == Value.type "dict") = false := by
      rcases src2 with ⟨⟨oc, od, ot, oz⟩, g, c, n, e⟩ | ⟨⟨oc, od, ot, oz⟩, g, c, n, e⟩ <;> (simp only at c e; subst c; subst e)
      · exact ⟨_, _, _, _, g, PySem.F.sub_list_set, PySem.F.sub_list_frozenset, by decide⟩
      · exact ⟨_, _, _, _, g, PySem.F.sub_tuple_set, PySem.F.sub_tuple_frozenset, by decide⟩
    obtain ⟨T, od, n, oz, g, b1, b2, b3⟩ := kind
    clear src src2
    wp_walk
    refine wpAny_mono fin (fun it s1 k => wpAny_bind (wpAny_mono k (fun v s2 z => ?_) fun _ _ z => z)) fun _ _ z => z
    obtain ⟨rfl, z⟩ := z
    exact wpAny_pure (wpAny_pure ⟨rfl, z⟩)
  · rcases r2 with e | fl
    · exact hr2
    cases fl <;> first | exact hr2.elim | skip
    obtain ⟨rfl, h', tk, rfl, t, k⟩ := hr2
    repeat (any_goals (first | assumption | wp_step))
    exact q _ _ t k
end
theorem strs_of : ∀ {xs : List Str} {us : List Value}, Vals (xs.map V.str) us → StrsAre us xs
  | [], _, .nil => .nil
  | y :: _, _, .cons ⟨t, e⟩ r => e ▸ .cons y t (strs_of r)
def tLenS (K : PySem.W.Frag) (ta : TE) : TE := fun σ H Q => ta σ H fun x H1 => ∃ (l : Addr) (xs : List Str), x = .ref l ∧ (SqL K H1 l (xs.map V.str) ∨ SqT K H1 l (xs.map V.str)) ∧ xs.length + 1 < scanBound ∧ Q (.int (unl xs xs.length : Nat)) H1
theorem pe_lenS {X : Cx} {e : Expr} {te : TE} {n1 n2 c1 c2 : Pos} (g1 : Gl X "len") (m1 : X.mg "len" = none) (g2 : Gl X "set") (m2 : X.mg "set" = none) (he : PE X e te) (hc : X.calm = true := by rfl)
    (hs : starEach [e] X.env = (false, eval e X.env) :: starEach [] X.env := by rfl) : PE X (.Call (.Name "len" n1) [.Call (.Name "set" n2) [e] [] c2] [] c1) (tLenS X.K te) := by
  refine ⟨fun pins s σ H Q I h => Call_ (ld_blt I g1 m1 boot_len ?_)⟩
  refine callWith_builtin1 (args_cons ?_ rfl) rfl rfl
  refine Call_ (ld_blt I g2 m2 boot_set ?_)
  refine callWith_type1 (args_cons (thn (he.run pins s σ H _ I h) fun v s1 ⟨x, H1, I1, r1, q1⟩ => args_nil ?_) hs) hs rfl
  obtain ⟨l, xs, rfl, hq, small, q1⟩ := q1
  cases r1
  have src : ∃ its : List Value, Vals (xs.map V.str) its ∧ (s1.heap.IsList l its.toArray ∨ s1.heap.IsTuple l its.toArray) := by
    rcases hq with hq | hq
    · obtain ⟨its, r, pl, _⟩ := I1.list hq
      exact ⟨its, r, .inl pl.isList⟩
    · obtain ⟨its, r, pl, _⟩ := I1.tuple hq
      exact ⟨its, r, .inr pl⟩
  obtain ⟨its, r, src⟩ := src
  have len : its.toArray.size = xs.length := by rw [List.size_toArray, ← r.length, List.length_map]
  refine set_made (I1.ok.hd hc) src (by simpa using strs_of r) (by rw [len]; exact small) fun h' tk t k => args_nil ?_
  rw [len] at t
  obtain ⟨o, es, ep, tb, ho, ex, hd, _, _, _, ft, hn⟩ := t
  have I2 : Inv X pins σ H1 { s1 with heap := h', toks := tk } := I1.kept k
  have b := unl_le (xs := xs) xs.length
  have big : scanBound < 2 ^ 62 := by decide
  exact call_len_set ho ex hd ft (by rw [hn]; omega) ⟨.int (unl xs xs.length : Nat), H1, I2.tok _, ⟨_, by rw [hn]⟩, q1⟩
theorem ve_lenS {c : Ctx} {ρ : Rho} {S : Sto} {F : D → Sto → Prop} {te : TE} (h : VE c te ρ S fun x S1 => ∃ xs : List Str, IsQ S1 x (xs.map D.str) ∧ xs.length ≤ 1000 ∧ F (.int (unl xs xs.length : Nat)) S1) : VE c (tLenS c.K te) ρ S F := fun T σ H I Q k =>
  h T σ H I _ fun v x S1 T1 H1 m1 c1 r1 ⟨xs, q, small, f⟩ => by
    obtain ⟨a, vs, rfl, s, r⟩ := q.rd c1 r1
    have e := r.strs
    subst e
    have big : 2000 < scanBound := by decide
    exact ⟨a, xs, rfl, s, by omega, k _ _ S1 T1 H1 m1 c1 (.int _) f⟩
theorem unl_nodup {xs : List Str} (h : xs.Nodup) : ∀ i, i ≤ xs.length → unl xs i = i
  | 0, _ => rfl
  | i + 1, hi => by
    have ih := unl_nodup h i (by omega)
    unfold unl
    rw [ih]
    have no : ((xs.take i).any (· == xs.getD i Str.empty)) = false := by
      rw [Bool.eq_false_iff]
      intro z
      obtain ⟨y, hy, ey⟩ := List.any_eq_true.mp z
      rw [getD_at hi] at ey
      obtain ⟨j, hj, e⟩ := List.mem_take_iff_getElem.mp hy
      have e2 : xs[j] = xs[i] := e.trans (eq_of_beq ey)
      exact List.pairwise_iff_getElem.mp h j i (by omega) hi (by omega) e2
    rw [no]
    rfl
end VS
namespace VS
open PySem L2 PySem.Spec PyProof.Rows
/-! ### min of three, min of a list, list.insert, what is never reached -/
def tNevS : TS := fun _ _ _ => False
theorem ps_nev {X : Cx} {st : Stmt} : PS X st tNevS := ⟨fun _ _ _ _ _ _ h => h.elim⟩
section
variable {c : Ctx} {ρ : Rho} {S : Sto} {F : D → Sto → Prop}
def rInsert : V → List V → Hp → VK → Prop := fun x vs H Q => ∃ (l : Addr) (xs : List V) (i : Int) (y : V), x = .ref l ∧ vs = [.int i, y] ∧ H l = some (.lst xs) ∧ xs.length < sizeLine ∧ 0 ≤ i ∧ i < 2 ^ 63 ∧ Q .non (upd H l (.lst (xs.take i.toNat ++ [y] ++ xs.drop i.toNat)))
theorem mt_insertV {X : Cx} : MtR X "list.insert" rInsert := L2.mt_insert
theorem rm_insert {l : Addr} {ds : List D} {x : D} {i : Int} {n : Nat} (h : S l = some (.lst ds)) (hi : i = (n : Int)) (hn : n ≤ ds.length) (hl : ds.length < sizeLine) (q : F .non (put S l (.lst (ds.take n ++ [x] ++ ds.drop n)))) : RM c rInsert (.ref l) [.int i, x] S F := fun T u us H cl r1 r2 Q k => by
  subst hi
  cases r1
  cases r2 with
  | cons h0 t =>
    cases t with
    | cons h1 t =>
      cases t
      cases h0
      obtain ⟨xs, hx, r⟩ := cl.ok _ _ (cl.at h)
      have big : sizeLine < 2 ^ 62 := by decide
      refine ⟨l, xs, n, _, rfl, rfl, hx, by rw [r.length]; exact hl, by omega, by omega, ?_⟩
      rw [show ((n : Int)).toNat = n from rfl]
      exact k _ _ _ _ _ (mv_wr (cl.at h)) (cl.wr (cl.at h) (cell_l upd_same ((((r.take n).append (.cons h1 .nil)).append (r.drop n)).mv (mv_wr (cl.at h))))) .non q
end
end VS
namespace VS
open PySem L2 C8 PySem.Spec PyProof.Rows
/-! ### a module's constant that lies in the heap -/
def tKd (a : Addr) : TE := tC (.ref a)
theorem pe_kd {X : Cx} {x : Str} {pos : Pos} {a : Addr} (hg : Gl X x) (h : ∃ u, X.mg x = some u ∧ RelV (.ref a) u) (hd : (x == ("__debug__" : Str)) = false := by decide) : PE X (.Name x pos) (tKd a) := pe_gc hg h hd
theorem ve_kd {c : Ctx} {ρ : Rho} {S : Sto} {F : D → Sto → Prop} {a : Addr} {d : D} (r : ∀ H S, Rep c.K H S (.ref a) d) (q : F d S) : VE c (tKd a) ρ S F := ve_wr (r · ·) q
theorem isPL_strs : ∀ ms : List Str, isPL (ms.map D.str) = true
  | [] => rfl
  | m :: ms => by
    show (true && isPL (ms.map D.str)) = true
    rw [isPL_strs ms]
    rfl
theorem isP_strs (ms : List Str) : isP (.lst (ms.map D.str)) = true := isPL_strs ms
end VS
namespace VS
open PySem L2 PySem.Spec PyProof.Rows
section
variable {c : Ctx} {ρ : Rho} {S : Sto} {F : D → Sto → Prop}
/-- [e for x in xs if t], each by itself -/
theorem ve_lcF (p : D → Bool) (f : D → D) {wi : TI} {g : TG} {tt : TT} {te : TE} {vs : List Nat}
    (h : VI c wi ρ S fun ds S1 => ds.length ≤ 100000 ∧ (∀ d ∈ ds, VGw c vs g d (wipeR ρ vs) S1 fun ρ3 S3 => VT c tt ρ3 S3 fun b S4 => b = p d ∧ (p d = false → S4 = S1) ∧ (p d = true → VE c te ρ3 S4 fun y S5 => y = f d ∧ S5 = S1)) ∧ F (.lst ((ds.filter p).map f)) S1) : VE c (tLc wi g tt te vs) ρ S F := by
  refine ve_lc (fun T σ H I R k => h T σ H I R fun J ds S1 T1 H1 m1 c1 w ⟨h1, h2, h3⟩ => k J ds S1 T1 H1 m1 c1 w ⟨h1, fun i acc S2 => acc = ((ds.take i).filter p).map f ∧ S2 = S1, ⟨rfl, rfl⟩, ?_, ?_⟩)
  · rintro i d acc S2 hd ⟨e1, rfl⟩ hl T0 u0 σ0 H0 I0 r0 Q0 k0
    refine h2 d (List.mem_of_getElem? hd) T0 u0 σ0 H0 I0 r0 Q0 fun σ' ρ' S' T' H' hw m I' q => k0 σ' ρ' S' T' H' hw m I' ?_
    have tk : ds.take (i + 1) = ds.take i ++ [d] := by rw [List.take_succ, hd]; rfl
    refine q.imp fun b S4 ⟨hb, hf, hv⟩ => ?_
    subst hb
    refine ⟨fun z => (hv z).imp fun y S5 ⟨e2, e3⟩ => ⟨?_, e3⟩, fun z => ⟨?_, hf z⟩⟩
    · rw [tk, e1, e2, List.filter_append, List.map_append, List.filter_cons, if_pos z]
      rfl
    · rw [tk, e1, List.filter_append, List.map_append, List.filter_cons, if_neg (by rw [z]; decide)]
      simp
  · rintro acc S2 ⟨e1, rfl⟩ _
    rw [List.take_length] at e1
    rw [e1]
    exact h3
end
end VS
namespace VS
open PySem L2 PySem.Spec PyProof.Rows
end VS
namespace VS
open PySem L2 PySem.Spec PyProof.Rows
section
variable {c : Ctx} {ρ : Rho} {S : Sto} {F : D → Sto → Prop}
/-- [e for x in xs]: Q holds of each element, J of the store -/
theorem ve_lcJ (Q : D → Prop) (J : Nat → Sto → Prop) {wi : TI} {g : TG} {tt : TT} {te : TE} {vs : List Nat}
    (h : VI c wi ρ S fun ds S1 => ds.length ≤ 100000 ∧ J 0 S1 ∧ (∀ (i : Nat) (d : D) S2, ds[i]? = some d → J i S2 → VGw c vs g d (wipeR ρ vs) S2 fun ρ3 S3 => VT c tt ρ3 S3 fun b S4 => b = true ∧ VE c te ρ3 S4 fun y S5 => Q y ∧ J (i + 1) S5) ∧
      ∀ acc S2, acc.length = ds.length → (∀ y ∈ acc, Q y) → J ds.length S2 → F (.lst acc) S2) : VE c (tLc wi g tt te vs) ρ S F := by
  refine ve_lc (fun T σ H I R k => h T σ H I R fun J1 ds S1 T1 H1 m1 c1 w ⟨h1, h0, h2, h3⟩ => k J1 ds S1 T1 H1 m1 c1 w ⟨h1, fun i acc S2 => acc.length = i ∧ (∀ y ∈ acc, Q y) ∧ J i S2, ⟨rfl, nofun, h0⟩, ?_, ?_⟩)
  · rintro i d acc S2 hd ⟨e1, e2, e3⟩ hl T0 u0 σ0 H0 I0 r0 Q0 k0
    refine h2 i d S2 hd e3 T0 u0 σ0 H0 I0 r0 Q0 fun σ' ρ' S' T' H' hw m I' q => k0 σ' ρ' S' T' H' hw m I' ?_
    refine q.imp fun b S4 ⟨hb, hv⟩ => ?_
    subst hb
    refine ⟨fun _ => hv.imp fun y S5 ⟨f2, f3⟩ => ⟨by rw [List.length_append, e1]; rfl, fun y' hy => (List.mem_append.mp hy).elim (e2 y') fun z => by rw [List.mem_singleton.mp z]; exact f2, f3⟩, fun z => by cases z⟩
  · rintro acc S2 ⟨e1, e2, e3⟩ _
    exact h3 acc S2 e1 e2 e3
/-- .. the list by reference -/
theorem ve_lccJ (Q : D → Prop) (J : Nat → Sto → Prop) {wi : TI} {g : TG} {tt : TT} {te : TE} {vs : List Nat}
    (h : VI c wi ρ S fun ds S1 => ds.length ≤ 100000 ∧ J 0 S1 ∧ (∀ (i : Nat) (d : D) S2, ds[i]? = some d → J i S2 → VGw c vs g d (wipeR ρ vs) S2 fun ρ3 S3 => VT c tt ρ3 S3 fun b S4 => b = true ∧ VE c te ρ3 S4 fun y S5 => Q y ∧ J (i + 1) S5) ∧
      ∀ acc S2, acc.length = ds.length → (∀ y ∈ acc, Q y) → J ds.length S2 → ∀ l, S2 l = none → F (.ref l) (put S2 l (.lst acc))) : VE c (tLc wi g tt te vs) ρ S F := by
  refine ve_lcc (fun T σ H I R k => h T σ H I R fun J1 ds S1 T1 H1 m1 c1 w ⟨h1, h0, h2, h3⟩ => k J1 ds S1 T1 H1 m1 c1 w ⟨h1, fun i acc S2 => acc.length = i ∧ (∀ y ∈ acc, Q y) ∧ J i S2, ⟨rfl, nofun, h0⟩, ?_, ?_⟩)
  · rintro i d acc S2 hd ⟨e1, e2, e3⟩ hl T0 u0 σ0 H0 I0 r0 Q0 k0
    refine h2 i d S2 hd e3 T0 u0 σ0 H0 I0 r0 Q0 fun σ' ρ' S' T' H' hw m I' q => k0 σ' ρ' S' T' H' hw m I' ?_
    refine q.imp fun b S4 ⟨hb, hv⟩ => ?_
    subst hb
    refine ⟨fun _ => hv.imp fun y S5 ⟨f2, f3⟩ => ⟨by rw [List.length_append, e1]; rfl, fun y' hy => (List.mem_append.mp hy).elim (e2 y') fun z => by rw [List.mem_singleton.mp z]; exact f2, f3⟩, fun z => by cases z⟩
  · rintro acc S2 ⟨e1, e2, e3⟩ _ l hl
    exact h3 acc S2 e1 e2 e3 l hl
end
theorem strs_all {Q : Str → Prop} : ∀ {xs : List D}, (∀ y ∈ xs, ∃ z, y = .str z ∧ Q z) → ∃ zs : List Str, xs = zs.map D.str ∧ ∀ z ∈ zs, Q z
  | [], _ => ⟨[], rfl, nofun⟩
  | x :: xs, h => by
    obtain ⟨z, rfl, q⟩ := h x (.head _)
    obtain ⟨zs, rfl, r⟩ := strs_all fun y hy => h y (.tail _ hy)
    exact ⟨z :: zs, rfl, fun y hy => (List.mem_cons.mp hy).elim (fun e => by rw [e]; exact q) (r y)⟩
end VS
namespace VS
open PySem L2 PySem.Spec PyProof.Rows
end VS
namespace VS
open PySem L2 C8 PySem.Spec PyProof.Rows
/-! ### x in [..] with own == -/
def decV : Value → Option V
  | .none => some .non
  | .bool b => some (.bl b)
  | .int i _ => some (.int i)
  | .str x _ => some (.str x)
  | .bytes b _ => some (.byt b)
  | .float b _ => some (.flt b)
  | .ref a => some (.ref a)
  | .type n => some (.ty n)
  | _ => none
theorem relV_dec {x : V} {u : Value} (h : L2.RelV x u) : decV u = some x := by
  cases x with
  | non => cases (show u = Value.none from h); rfl
  | bl b => cases (show u = Value.bool b from h); rfl
  | int i => obtain ⟨t, e⟩ := (show ∃ t, u = Value.int i t from h); subst e; rfl
  | str i => obtain ⟨t, e⟩ := (show ∃ t, u = Value.str i t from h); subst e; rfl
  | byt i => obtain ⟨t, e⟩ := (show ∃ t, u = Value.bytes i t from h); subst e; rfl
  | flt i => obtain ⟨t, e⟩ := (show ∃ t, u = Value.float i t from h); subst e; rfl
  | ref a => cases (show u = Value.ref a from h); rfl
  | ty n => cases (show u = Value.type n from h); rfl
theorem relV_inj {x y : V} {u : Value} (h1 : L2.RelV x u) (h2 : L2.RelV y u) : x = y := Option.some.inj ((relV_dec h1).symm.trans (relV_dec h2))
theorem vals_inj : ∀ {xs ys : List V} {us : List Value}, Vals xs us → Vals ys us → xs = ys
  | _, _, _, .nil, .nil => rfl
  | _, _, _, .cons a r, .cons b t => by rw [relV_inj a b, vals_inj r t]
/-- a tuple's items are told by its address -/
def SqU (K : PySem.W.Frag) (H : Hp) : Prop := ∀ a xs ys, SqT K H a xs → SqT K H a ys → xs = ys
theorem sq_uniq {X : Cx} {pins : List (Addr × Obj)} {σ : L2.St} {H : Hp} {s : Shared} (I : Inv X pins σ H s) : SqU X.K H := fun a xs ys h1 h2 => by
  obtain ⟨i1, r1, p1, _⟩ := I.tuple h1
  obtain ⟨i2, r2, p2, _⟩ := I.tuple h2
  obtain ⟨o, g, _, n, d⟩ := p1
  obtain ⟨o2, g2, _, n2, d2⟩ := p2
  rw [g] at g2
  cases g2
  rw [d] at d2
  have e : i1.toArray = i2.toArray := by injection d2
  have e : i1 = i2 := by simpa using e
  subst e
  exact vals_inj r1 r2
section
variable {X : Cx} {k : Nat} {f C : Addr} {fd : FuncData} {ps : List Str} {sp : Sp}
/-- one item asked: y == x -/
def stO (K : PySem.W.Frag) (C : Addr) (sp : Sp) (y x : V) (H : Hp) (G : Bool → Hp → Prop) : Prop :=
  ∃ a dx fs, x = .ref a ∧ H a = some (.ins C dx fs) ∧
    ((∃ T, TyX K H y (.type T) ∧ KdV y T ∧ (∀ b, y ≠ .ref b) ∧ PySem.W.subIn K (.ref C) (.type T) = some false ∧ sp [x, y] H (fun v H' => ∃ b, v = .bl b ∧ G b H') (fun _ _ _ => False)) ∨
     ∃ b dy gs, y = .ref b ∧ H b = some (.ins C dy gs) ∧ (b = a → SqU K H → G true H) ∧ (b ≠ a → sp [y, x] H (fun v H' => ∃ b, v = .bl b ∧ G b H') (fun _ _ _ => False)))
theorem eq_item (F : FnG X.prog X.w X.K X.mg X.base (L2.CX X.prog X.w) k f fd ps sp) {A : Around} (hgd : A.guards = some []) (hr : Room k A) (fr : A.frames = X.A.frames) (hs : PySem.W.findIn X.K (.ref C) "__eq__" = some (some (.ref f))) (hf : PySem.W.isFn X.K (.ref f) = true) (hb : Binds X.K fd ps [])
    {pins : List (Addr × Obj)} {σ : L2.St} {H : Hp} {s : Shared} {y x : V} {u v : Value} {G : Bool → Hp → Prop} {Q : Bool → Shared → Prop} (I : Inv X pins σ H s) (ry : L2.RelV y u) (rx : L2.RelV x v) (h : stO X.K C sp y x H G)
    (q : ∀ b H' s', Inv X pins σ H' s' → G b H' → Q b s') : wpAny (model X.prog X.w) A (eqBool u v) Q X.xe s := by
  obtain ⟨a, dx, fs, rfl, ha, h⟩ := h
  cases rx
  obtain ⟨mA, J, _⟩ := ins_get I.hok ha
  have hx := J.obj
  obtain ⟨od, J, _⟩ := J.look
  have back : ∀ (vs : List V) (us : List Value), Vals vs us → sp vs H (fun v H' => ∃ b, v = .bl b ∧ G b H') (fun _ _ _ => False) → wpAny (model X.prog X.w) A (call (.ref f) us) (PySem.W.CmpBack fun v s' => ∃ r, v = .bool r ∧ Q r s') X.xe s := fun vs us r hp => by
    refine wpAny_mono (callG_at F hgd hr fr hb I r hp) (fun rr s' z => ?_) fun _ _ z => z
    obtain ⟨w, H', I', rw', b, ew, q'⟩ := z
    subst ew
    cases rw'
    exact ⟨b, rfl, q b H' s' I' q'⟩
  rcases h with ⟨T, ty, kd, nr, hn, hp⟩ | ⟨b, dy, gs, rfl, hb2, same, hp⟩
  · have hT := tyx_is I ry ty
    have rc : wpAny (model X.prog X.w) A (richCompare .Eq u (.ref a)) (fun v s' => ∃ r, v = .bool r ∧ Q r s') X.xe s :=
      refl_K hr.units0 I.kIn J (hT.oneThing_none _ _) (tyx_looks I ry (.x ty)) (fun z => nomatch z) hn (declines (kd.ok ry) hT I.kIn hx hn) hs hf (back [.ref a, y] [.ref a, u] (.cons rfl (.cons ry .nil)) hp)
    have tail : wpAny (model X.prog X.w) A (richCompare .Eq u (.ref a) >>= truthOfDropped) Q X.xe s := wpAny_bind (wpAny_mono rc (fun v s' z => by
      obtain ⟨r, e, q⟩ := z
      subst e
      exact wpAny_truthy_bool q) fun _ _ z => z)
    unfold eqBool
    refine wpAny_holding ?_
    cases kd with
    | non => cases (show u = Value.none from ry); exact wpAny_ite_split (fun z => nomatch z) fun _ => tail
    | bl b => cases (show u = Value.bool b from ry); exact wpAny_ite_split (fun z => nomatch z) fun _ => tail
    | int i => obtain ⟨t, e⟩ := (show ∃ t, u = Value.int i t from ry); subst e; exact wpAny_ite_split (fun z => nomatch z) fun _ => tail
    | str i => obtain ⟨t, e⟩ := (show ∃ t, u = Value.str i t from ry); subst e; exact wpAny_ite_split (fun z => nomatch z) fun _ => tail
    | lst b => exact absurd rfl (nr b)
    | tup b => exact absurd rfl (nr b)
    | dct b => exact absurd rfl (nr b)
  · cases ry
    by_cases e : b = a
    · subst e
      exact SeqAt.EqAt.same (A := A) (s := s) (.ref b) X.prog X.w X.xe _ (q true H s I (same rfl (sq_uniq I)))
    · obtain ⟨mB, J2, _⟩ := ins_get I.hok hb2
      obtain ⟨od2, J2, _⟩ := J2.look
      obtain ⟨m, hF⟩ := I.fr
      refine GQ.eqBool_refG e ?_
      exact PySem.W.cmp_K (op := .Eq) (tb := .ref C) hr.units0 hF I.ok.mod.kin J2 J.type (by simp [PySem.W.notFirst]) hs hf (back [.ref b, .ref a] _ (.cons rfl (.cons rfl .nil)) (hp e))
end
/-- may be one object -/
def Sim (x y : D) : Prop := ∃ (K : PySem.W.Frag) (H : Hp) (T : Sto) (u : V), SqU K H ∧ Rep K H T u x ∧ Rep K H T u y
inductive FlK : D → String → Prop
  | non : FlK .non "NoneType" | bl (b : Bool) : FlK (.bl b) "bool" | int (i : Int) : FlK (.int i) "int" | str (z : Str) : FlK (.str z) "str"
theorem FlK.ty {S : Sto} {d : D} {n : String} (h : FlK d n) : TyS S d n := by
  cases h with
  | non => exact .non
  | bl b => exact .bl b
  | int i => exact .int i
  | str z => exact .str z
end VS
namespace VS
open PySem L2 C8 PySem.Spec PyProof.Rows
/-! ### bool of a truth; one operator, two readings -/
end VS
namespace VS
open PySem L2 PySem.Spec PyProof.Rows
/-! ### .. the list told by an expression -/
section
variable {c : Ctx} {ρ : Rho} {S : Sto} {F : D → Sto → Prop}
theorem ve_lcCellE {g : TG} {tt : TT} {te : TE} {vs : List Nat} {ti : TE} {l : Addr} {ds : List D} (hv : VE c ti ρ (VS.del S l) fun x S1 => x = .ref l ∧ S1 = VS.del S l) (hl : S l = some (.lst ds)) (hz : ds.length ≤ 100000) (W : Nat → List D → Sto → Prop) (h0 : W 0 [] (VS.del S l))
    (hs : ∀ (i : Nat) (d : D) acc S2, ds[i]? = some d → W i acc S2 → acc.length ≤ i → VGw c vs g d (wipeR ρ vs) S2 fun ρ3 S3 => VT c tt ρ3 S3 fun b S4 => (b = true → VE c te ρ3 S4 fun y S5 => W (i + 1) (acc ++ [y]) S5) ∧ (b = false → W (i + 1) acc S4))
    (hd : ∀ acc S2, W ds.length acc S2 → acc.length ≤ ds.length → F (.lst acc) (put S2 l (.lst ds))) : VE c (tLc (iList c.K ti) g tt te vs) ρ S F := fun T σ H I Q k => by
  have ht := I.cells.at hl
  obtain ⟨xs, hx, r⟩ := I.cells.ok _ _ ht
  have m0 : Mv T H (put T l .hid) H := mv_hide ht (by nofun)
  have c0 := I.cells.hide hl hx
  have I0 : In c σ H ρ (VS.del S l) (put T l .hid) := I.mv m0 c0
  refine lc_heartAt (R := fun acc S2 => F (.lst acc) (put S2 l (.lst ds))) (fun R kR => ?_) I0 fun p ys acc S' T' H' T1 H1 m1 m cl s n hp rr q => ?_
  · refine hv _ σ H I0 _ fun vx x S1 T1 H1 m1 c1 r1 ⟨e1, e2⟩ => ?_
    subst e1 e2
    cases r1
    obtain ⟨hx1, s1⟩ := m1.hid l _ put_same hx
    have rx : RepL c.K H1 T1 xs ds := (r.mk m0.toMk).mv m1
    have hq : ∀ T2 H2, Mv T1 H1 T2 H2 → SqL c.K H2 l xs := fun T2 H2 m2 => .inl (.inl (m2.hid l _ s1 hx1).1)
    exact ⟨l, rfl, ⟨xs, .inl (.inl hx1)⟩, kR _ ds _ T1 H1 m1 c1 (yl_list hq rx) ⟨hz, W, h0, hs, hd⟩⟩
  · have mm := m1.trans m
    obtain ⟨hx', s'⟩ := mm.hid l _ put_same hx
    obtain ⟨hx1, _⟩ := m1.hid l _ put_same hx
    have npl : l ≠ p := fun z => by subst z; rw [n] at hx1; cases hx1
    have rx : RepL c.K H' T' xs ds := (r.mk m0.toMk).mv mm
    have s2 : (VS.del T' p) l = some .hid := by rw [VS.del_ne npl]; exact s'
    have c2 := (cl.unhid s).show s2 hx' (rx.mk (mk_show s))
    have mk2 : Mk (VS.del T' p) H' (put (VS.del T' p) l (.lst ds)) H' := by
      refine ⟨fun _ _ _ h => h, fun a u1 _ => ?_⟩
      have nal : a ≠ l := fun z => by rw [z, s2] at u1; cases u1
      rw [put_ne nal]
      exact u1
    have m3 : Mv T H (put (VS.del T' p) l (.lst ds)) H' := by
      have ma := m0.trans mm
      refine ⟨⟨ma.keep, fun a u e => ?_⟩, fun a o u e => ?_⟩
      · have nal : a ≠ l := fun z => by subst z; rw [ht] at u; cases u
        rw [put_ne nal]
        unfold VS.del
        split
        · rfl
        · exact ma.fresh a u e
      · obtain ⟨e1, e2⟩ := ma.hid a o u e
        refine ⟨e1, ?_⟩
        have nal : a ≠ l := fun z => by subst z; rw [ht] at u; cases u
        have nap : a ≠ p := fun z => by
          subst z
          obtain ⟨e3, _⟩ := (m0.trans m1).hid a o u e
          rw [n] at e3; cases e3
        rw [put_ne nal, VS.del_ne nap]
        exact e2
    exact k _ (.lst acc) _ _ H' m3 c2 (.lst (by rw [put_ne (Ne.symm npl)]; exact del_same) hp ((rr.mk (mk_show s)).mk mk2)) q
theorem put_back {l : Addr} {d : D} (h : S l = some d) : put (VS.del S l) l d = S := by
  funext b
  by_cases e : b = l
  · subst e; rw [put_same, h]
  · rw [put_ne e, VS.del_ne e]
end
end VS
namespace VS
open PySem L2 PySem.Spec PyProof.Rows
/-! ### xs[::-1] -/
theorem RepL.rev {K : PySem.W.Frag} {H : Hp} {S : Sto} : ∀ {xs : List V} {ds : List D}, RepL K H S xs ds → RepL K H S xs.reverse ds.reverse
  | _, _, .nil => .nil
  | _, _, .cons h t => by
    rw [List.reverse_cons, List.reverse_cons]
    exact t.rev.append (.cons h .nil)
section
variable {c : Ctx} {ρ : Rho} {S : Sto} {F : D → Sto → Prop}
theorem ve_revL {te : TE} (h : VE c te ρ S fun x S1 => ∃ ds, IsL S1 x ds ∧ F (.lst ds.reverse) S1) : VE c (tRevL c.K te) ρ S F := fun T σ H I Q k =>
  h T σ H I _ fun vx x S1 T1 H1 m1 c1 r1 ⟨ds, hx, q⟩ => by
    obtain ⟨a, xs, rfl, s, r⟩ := hx.rd c1 r1
    exact ⟨a, xs, rfl, s, fun p hp => k _ _ S1 T1 _ (m1.trans (mv_new hp)) (c1.new hp) (.lst (c1.free hp) upd_same (r.rev.mv (mv_new hp))) q⟩
end
end VS
namespace VS
open PySem L2 PySem.Spec PyProof.Rows
end VS
namespace VS
open PySem L2
/-! ### what was known stays known where nothing is lost -/
section
variable {S S' : Sto}
theorem TyS.ext {d : D} {n : String} (h : TyS S d n) (x : Ext S S') : TyS S' d n := by
  cases h with
  | cl h => exact .cl (x _ _ h)
  | cd h => exact .cd (x _ _ h)
  | non => exact .non
  | bl b => exact .bl b
  | int i => exact .int i
  | str z => exact .str z
  | rol ds => exact .rol ds
  | lst ds => exact .lst ds
  | tup ds => exact .tup ds
  | dK ds => exact .dK ds
theorem IsI.ext {d : D} {C : Addr} {fs : List (Str × D)} (h : IsI S d C fs) (x : Ext S S') : IsI S' d C fs := by
  cases h with
  | v => exact .v
  | c h => exact .c (x _ _ h)
theorem OfC.ext {K : PySem.W.Frag} {d : D} {t : Value} (h : OfC K S d t) (x : Ext S S') : OfC K S' d t := by
  cases h with
  | p h => exact .p (h.ext x)
  | i h c => exact .i (h.ext x) c
  | e T => exact .e T
theorem Da.ext {d d' : D} (h : Da S d d') (x : Ext S S') : Da S' d d' := by
  cases h with
  | v p => exact .v p
  | c h p => exact .c (x _ _ h) p
  | k h p => exact .k (x _ _ h) p
theorem DaL.ext (x : Ext S S') : ∀ {ds es : List D}, DaL S ds es → DaL S' ds es
  | _, _, .nil => .nil
  | _, _, .cons h r => .cons (h.ext x) (r.ext x)
theorem Vw.ext {d d' : D} (h : Vw S d d') (x : Ext S S') : Vw S' d d' := by
  cases h with
  | v => exact .v
  | c h n => exact .c (x _ _ h) n
end
section
variable {c : Ctx} {ρ : Rho} {S : Sto} {F : D → Sto → Prop}
/-- a text and itself -/
theorem rv_neSame {z : Str} (q : F (.bl false) S) : RV c rNe (.str z) (.str z) S F := rv_ne (b := true) (by show some (decide (z = z)) = some true; rw [decide_eq_true rfl]) q
end
end VS
namespace VS
open PySem L2 C8 PySem.Spec PyProof.Rows
/-! ### a walk over a list known by reference: it is hidden meanwhile -/
section
variable {c : Ctx} {ρ : Rho} {S : Sto}
/-- no exception leaves -/
abbrev Ctx.calm (c : Ctx) : Ctx := ⟨c.K, c.E, fun _ _ _ _ => False⟩
end
end VS
namespace VS
open PySem L2 C8 PySem.Spec PyProof.Rows
section
variable {c : Ctx} {ρ : Rho} {S : Sto}
/-- a statement, what is known behind it, and the rest: where ways meet -/
theorem vx_join {a b : TS} {nx bk ct : Rho → Sto → Prop} {rt : D → Sto → Prop} (W : Rho → Sto → Prop) (h1 : VX c a ρ S ⟨W, rt, bk, ct⟩) (h2 : ∀ ρ' S', W ρ' S' → VX c b ρ' S' ⟨nx, rt, bk, ct⟩) : VX c (tSeq a b) ρ S ⟨nx, rt, bk, ct⟩ :=
  vx_seq (fun T σ H I D k => h1 T σ H I D ⟨fun σ' ρ' S' T' H' m I' q => k.nx σ' ρ' S' T' H' m I' (h2 ρ' S' q), k.rt, k.bk, k.ct⟩)
/-- x += e, whole numbers -/
theorem vx_augI {i : Nat} {te : TE} {f : Int → Int → Int} {a : Int} {nx bk ct : Rho → Sto → Prop} {rt : D → Sto → Prop} (hv : ρ[i]? = some (some (.int a))) (h : VE c te ρ S fun y S1 => ∃ b, y = .int b ∧ nx (ρ.set i (some (.int (f a b)))) S1) : VX c (tAug i te (ipI f)) ρ S ⟨nx, rt, bk, ct⟩ := fun T σ H I D bh => by
  obtain ⟨v, hs, r⟩ := I.slots i _ hv
  cases r
  refine ⟨.int a, hs, h T σ H I _ fun v y S1 T1 H1 m1 c1 r1 ⟨b, e, q⟩ => ?_⟩
  subst e
  cases r1
  exact ⟨a, b, rfl, rfl, bh.nx _ _ _ _ _ m1 ((I.mv m1 c1).set i (.int _)) q⟩
end
end VS
namespace VS
open PySem L2 C8 PySem.Spec PyProof.Rows
/-! ### min and max of a tuple of whole numbers -/
end VS
namespace VS
open PySem L2 C8 PySem.Spec PyProof.Rows
/-! ### dicts whose keys are numbers and texts: d[k], d[k] = v, {} by reference -/
def valD (ds : List (Key × D)) (k : Key) : Option D := (ds.find? fun kv => decide (kv.1 = k)).map (·.2)
def dkPut (ds : List (Key × D)) (k : Key) (d : D) : List (Key × D) :=
  if (ds.any fun kv => decide (kv.1 = k)) = true then ds.map (fun kv => if kv.1 = k then (kv.1, d) else kv) else ds ++ [(k, d)]
theorem valD_pos {p : Key × D} {r : List (Key × D)} {k : Key} (e : p.1 = k) : valD (p :: r) k = some p.2 := by simp [valD, List.find?_cons, e]
theorem valD_neg {p : Key × D} {r : List (Key × D)} {k : Key} (e : ¬ p.1 = k) : valD (p :: r) k = valD r k := by simp [valD, List.find?_cons, e]
section
variable {K : PySem.W.Frag} {H : Hp} {S : Sto}
theorem RepK.val {k : Key} : ∀ {vs : List (Key × V)} {ds : List (Key × D)}, RepK K H S vs ds → (valV vs k = none ∧ valD ds k = none) ∨ ∃ v d, valV vs k = some v ∧ valD ds k = some d ∧ Rep K H S v d
  | _, _, .nil => .inl ⟨rfl, rfl⟩
  | _, _, .cons (k := k') h t => by
    by_cases e : k' = k
    · exact .inr ⟨_, _, valV_pos e, valD_pos e, h⟩
    · rw [valV_neg e, valD_neg e]
      exact RepK.val t
theorem RepK.anyK {k : Key} : ∀ {vs : List (Key × V)} {ds : List (Key × D)}, RepK K H S vs ds → (vs.any fun kv => decide (kv.1 = k)) = ds.any fun kv => decide (kv.1 = k)
  | _, _, .nil => rfl
  | _, _, .cons h t => by rw [List.any_cons, List.any_cons, RepK.anyK t]
theorem RepK.rep {k : Key} {v : V} {d : D} (r : Rep K H S v d) : ∀ {vs : List (Key × V)} {ds : List (Key × D)}, RepK K H S vs ds → RepK K H S (vs.map fun kv => if kv.1 = k then (kv.1, v) else kv) (ds.map fun kv => if kv.1 = k then (kv.1, d) else kv)
  | _, _, .nil => .nil
  | _, _, .cons (k := k') h t => by
    rw [List.map_cons, List.map_cons]
    by_cases e : k' = k
    · rw [if_pos e, if_pos e]; exact .cons r (RepK.rep r t)
    · rw [if_neg e, if_neg e]; exact .cons h (RepK.rep r t)
theorem RepK.app {k : Key} {v : V} {d : D} (r : Rep K H S v d) : ∀ {vs : List (Key × V)} {ds : List (Key × D)}, RepK K H S vs ds → RepK K H S (vs ++ [(k, v)]) (ds ++ [(k, d)])
  | _, _, .nil => .cons r .nil
  | _, _, .cons h t => .cons h (RepK.app r t)
theorem RepK.put {k : Key} {v : V} {d : D} {vs : List (Key × V)} {ds : List (Key × D)} (r : Rep K H S v d) (h : RepK K H S vs ds) : RepK K H S (putK vs k v) (dkPut ds k d) := by
  unfold putK dkPut
  rw [h.anyK]
  by_cases e : (ds.any fun kv => decide (kv.1 = k)) = true
  · rw [if_pos e, if_pos e]; exact RepK.rep r h
  · rw [if_neg e, if_neg e]; exact RepK.app r h
theorem RepK.length : ∀ {vs : List (Key × V)} {ds : List (Key × D)}, RepK K H S vs ds → vs.length = ds.length
  | _, _, .nil => rfl
  | _, _, .cons h t => congrArg (· + 1) (RepK.length t)
end
inductive IsDk (S : Sto) : D → List (Key × D) → Prop
  | v {ds : List (Key × D)} : IsDk S (.dK ds) ds
  | c {l : Addr} {ds : List (Key × D)} (h : S l = some (.dK ds)) : IsDk S (.ref l) ds
theorem IsDk.rd {K : PySem.W.Frag} {H : Hp} {S T : Sto} {x : D} {ds : List (Key × D)} {u : V} (h : IsDk S x ds) (cl : Cells K H S T) (r : Rep K H T u x) : ∃ a vs, u = .ref a ∧ Rd H a (.dK vs) ∧ RepK K H T vs ds := by
  cases h with
  | v => cases r with
    | dK s h r => exact ⟨_, _, rfl, h, r⟩
  | c h => cases r; obtain ⟨xs, h1, r⟩ := cl.ok _ _ (cl.at h); exact ⟨_, xs, rfl, .inl h1, r⟩
theorem DGet.r {H : Hp} {a : Addr} {kvs : List (Key × V)} {k : Key} (e : Rd H a (.dK kvs)) : DGet H a (kV k) (valV kvs k) := .inl ⟨kvs, k, e, rfl, rfl⟩
/-! ### lists or tuples: s[i], s[i:j] -/
end VS
namespace VS
open PySem L2 PySem.Spec PyProof.Rows
/-! ### comprehensions over a list known by reference, once more: the result by reference; each element by itself -/
end VS
namespace VS
open PySem L2 C8 PySem.Spec PyProof.Rows
/-! ### sorted(xs, key=f, reverse=b), f an own def -/
section
variable {c : Ctx} {ρ : Rho} {S : Sto} {F : D → Sto → Prop}
theorem RepL.pairs {K : PySem.W.Frag} {H : Hp} {T : Sto} : ∀ {vs : List V} {ds : List D}, RepL K H T vs ds → ∃ qs : List (V × D), qs.map Prod.fst = vs ∧ qs.map Prod.snd = ds ∧ ∀ q ∈ qs, Rep K H T q.1 q.2
  | _, _, .nil => ⟨[], rfl, rfl, nofun⟩
  | _, _, .cons (v := v) (d := d) h t => by
    obtain ⟨qs, e1, e2, hq⟩ := RepL.pairs t
    exact ⟨(v, d) :: qs, by rw [List.map_cons, e1], by rw [List.map_cons, e2], fun q m => (List.mem_cons.mp m).elim (fun e => by rw [e]; exact h) (hq q)⟩
end
end VS
namespace VS
open PySem L2 PySem.Spec PyProof.Rows
/-! ### things seen whole: what is known by reference within them, too -/
mutual
inductive Vd (S : Sto) : D → D → Prop
  | v {d : D} : Vd S d d
  | c {l : Addr} {d d' : D} (h : S l = some d) (n : ¬ NoF d) (k : Vd S d d') : Vd S (.ref l) d'
  | lst {xs ys : List D} (h : VdL S xs ys) : Vd S (.lst xs) (.lst ys)
  | tup {xs ys : List D} (h : VdL S xs ys) : Vd S (.tup xs) (.tup ys)
  | dK {xs ys : List (Key × D)} (h : VdK S xs ys) : Vd S (.dK xs) (.dK ys)
  | ins {C : Addr} {fs gs : List (Str × D)} (h : VdF S fs gs) : Vd S (.ins C fs) (.ins C gs)
inductive VdL (S : Sto) : List D → List D → Prop
  | nil : VdL S [] []
  | cons {x y : D} {xs ys : List D} (h : Vd S x y) (t : VdL S xs ys) : VdL S (x :: xs) (y :: ys)
inductive VdK (S : Sto) : List (Key × D) → List (Key × D) → Prop
  | nil : VdK S [] []
  | cons {k : Key} {x y : D} {xs ys : List (Key × D)} (h : Vd S x y) (t : VdK S xs ys) : VdK S ((k, x) :: xs) ((k, y) :: ys)
inductive VdF (S : Sto) : List (Str × D) → List (Str × D) → Prop
  | nil : VdF S [] []
  | cons {k : Str} {x y : D} {xs ys : List (Str × D)} (h : Vd S x y) (t : VdF S xs ys) : VdF S ((k, x) :: xs) ((k, y) :: ys)
end
section
variable {K : PySem.W.Frag} {H : Hp} {S T : Sto}
mutual
theorem Vd.rd (cl : Cells K H S T) : ∀ {x d : D} {u : V} {T' : Sto}, Vd S x d → Rep K H T' u x → Rep K H (fun _ => none) u d
  | _, _, _, _, .v, r => r.any
  | _, _, _, _, .c h n k, r => by
    cases r
    exact Vd.rd cl k (cl.rep (cl.at h) n)
  | _, _, _, _, .lst h, r => by
    cases r with
    | lst s e r => exact .lst rfl e (VdL.rd cl h r)
  | _, _, _, _, .tup h, r => by
    cases r with
    | tup s e r => exact .tup rfl e (VdL.rd cl h r)
    | tupK e r => exact .tupK e (VdL.rd cl h r)
  | _, _, _, _, .dK h, r => by
    cases r with
    | dK s e r => exact .dK rfl e (VdK.rd cl h r)
  | _, _, _, _, .ins h, r => by
    cases r with
    | ins s e r => exact .ins rfl e (VdF.rd cl h r)
theorem VdL.rd (cl : Cells K H S T) : ∀ {xs ds : List D} {us : List V} {T' : Sto}, VdL S xs ds → RepL K H T' us xs → RepL K H (fun _ => none) us ds
  | _, _, _, _, .nil, r => by cases r; exact .nil
  | _, _, _, _, .cons h t, r => by
    cases r with
    | cons r1 r2 => exact .cons (Vd.rd cl h r1) (VdL.rd cl t r2)
theorem VdK.rd (cl : Cells K H S T) : ∀ {xs ds : List (Key × D)} {us : List (Key × V)} {T' : Sto}, VdK S xs ds → RepK K H T' us xs → RepK K H (fun _ => none) us ds
  | _, _, _, _, .nil, r => by cases r; exact .nil
  | _, _, _, _, .cons h t, r => by
    cases r with
    | cons r1 r2 => exact .cons (Vd.rd cl h r1) (VdK.rd cl t r2)
theorem VdF.rd (cl : Cells K H S T) : ∀ {xs ds : List (Str × D)} {us : List (Str × V)} {T' : Sto}, VdF S xs ds → RepF K H T' us xs → RepF K H (fun _ => none) us ds
  | _, _, _, _, .nil, r => by cases r; exact .nil
  | _, _, _, _, .cons h t, r => by
    cases r with
    | cons r1 r2 => exact .cons (Vd.rd cl h r1) (VdF.rd cl t r2)
end
end
end VS
namespace VS
open PySem L2
/-! ### a pure test or expression, all cells read as by value meanwhile -/
section
variable {c : Ctx} {ρ ρ' : Rho} {S : Sto} {F : D → Sto → Prop} {G : Bool → Sto → Prop}
structure VdR (S : Sto) (ρ ρ' : Rho) : Prop where
  len : ρ'.length = ρ.length
  at_ : ∀ (i : Nat) (d' : D), ρ'[i]? = some (some d') → ∃ d, ρ[i]? = some (some d) ∧ Vd S d d'
theorem VdR.refl : VdR S ρ ρ := ⟨rfl, fun _ d h => ⟨d, h, .v⟩⟩
theorem VdR.set (w : VdR S ρ ρ') (i : Nat) {d d' : D} (h : ρ[i]? = some (some d)) (hd : Vd S d d') : VdR S ρ (ρ'.set i (some d')) := ⟨by rw [List.length_set]; exact w.len, fun j e q => by
  by_cases z : i = j
  · subst z
    rw [List.getElem?_set_self (by rw [w.len]; exact (List.getElem?_eq_some_iff.mp h).1)] at q
    cases q
    exact ⟨d, h, hd⟩
  · rw [List.getElem?_set_ne z] at q
    exact w.at_ j e q⟩
end
end VS
namespace VS
open PySem L2 C8 PySem.Spec PyProof.Rows
/-! ### xs.index(x) of a list by value -/
section
variable {c : Ctx} {ρ : Rho} {S : Sto} {F : D → Sto → Prop}
theorem ve_bmV {r : MR1} {to : TE} {t : TA} (h : VE c to ρ S fun x S1 => ∃ ds, IsL S1 x ds ∧ VA c t ρ S1 fun es S2 => RM c r x es S2 F) : VE c (tBM c.K "list" r to t) ρ S F := fun T σ H I Q k =>
  h T σ H I _ fun vx x S1 T1 H1 m1 c1 r1 ⟨ds, hi, h1⟩ => by
    obtain ⟨a, xs, e, s, _⟩ := hi.rd c1 r1
    subst e
    exact ⟨.inl ⟨rfl, xs, s⟩, h1 T1 σ H1 (I.mv m1 c1) _ fun vs es S2 T2 H2 m2 c2 r2 h2 => h2 T2 _ vs H2 c2 (r1.mv m2) r2 Q fun v d S3 T3 H3 m3 c3 r3 q => k v d S3 T3 H3 (m1.trans (m2.trans m3)) c3 r3 q⟩
theorem rm_indexV {y : D} {ds : List D} {x z : D} {j : Nat} (h : IsL S y ds) (h1 : flatD x = true) (h2 : ds.all flatD = true) (hj : ds[j]? = some z) (e : eqD z x = true) (no : ∀ (m : Nat) (z' : D), m < j → ds[m]? = some z' → eqD z' x = false) (q : F (.int (j : Nat)) S) :
    RM c (rIndex c.K) y [x] S F := fun T u us H cl r1 r2 Q k => by
  obtain ⟨a, xs, e0, hs, r⟩ := h.rd cl r1
  subst e0
  cases r2 with
  | cons hx t =>
    cases t
    obtain ⟨v, e1, e2⟩ := r.get hj
    refine ⟨a, xs, _, j, v, rfl, rfl, hs, by rw [flat_ok hx]; exact h1, by rw [r.flat]; exact h2, e1, by rw [eq_ok e2 hx]; exact e, fun m z' hm hz => ?_, k _ _ S T H Mv.refl cl (.int _) q⟩
    have hb : m < ds.length := by
      rw [← r.length]
      exact (List.getElem?_eq_some_iff.mp hz).1
    obtain ⟨v', f1, f2⟩ := r.get (List.getElem?_eq_getElem hb)
    rw [hz] at f1
    cases f1
    rw [eq_ok f2 hx]
    exact no m _ hm (List.getElem?_eq_getElem hb)
end
end VS
namespace VS
open PySem L2 C8 PySem.Spec PyProof.Rows
/-! ### list(d), the keys texts -/
/-! ### a comprehension in a comprehension -/
end VS
namespace VS
open PySem L2 C8 PySem.Spec PyProof.Rows
/-! ### a module's dict of own defs, by texts -/
structure KDct (P : Program) (w : World) (K : PySem.W.Frag) (a : Addr) (kvs : List (Str × Addr)) : Prop where
  sys : (a == sysModules) = false
  nd : (kvs.map Prod.fst).Nodup
  ob : ∃ o es ep, K.lookup a = some o ∧ o.ExactDict ∧ o.data = .dict es ep ∧ KeysOf (PySem.strKind P w) es ∧ Pairs (PySem.strKind P w) es.toList (kvs.map fun x => (x.1, Value.ref x.2))
theorem KDct.map {P : Program} {w : World} {K : PySem.W.Frag} {a : Addr} {kvs : List (Str × Addr)} (h : KDct P w K a kvs) {hp : Heap} (i : K.In hp) : Heap.MapOf (PySem.strKind P w) hp a (valueAt (kvs.map fun x => (x.1, Value.ref x.2))) := by
  obtain ⟨o, es, ep, h1, h2, h3, h4, h5⟩ := h.ob
  refine Heap.DictOf.mapOf ⟨o, es, ep, i _ _ h1, h2, h3, h4, h5, ?_⟩
  rw [List.map_map]
  exact h.nd
def entK (w : World) (x : Str × Addr × Tok) : DictEntry := ⟨hashStr w x.1, .str x.1 x.2.2, .ref x.2.1⟩
theorem pairs_ents {P : Program} {w : World} : ∀ ents : List (Str × Addr × Tok), Pairs (PySem.strKind P w) (ents.map (entK w)) ((ents.map fun x => (x.1, x.2.1)).map fun x => (x.1, Value.ref x.2))
  | [] => .nil
  | (z, f, t) :: es => .cons (show Value.isStrOf z (Value.str z t) = true by simp [Value.isStrOf]) rfl (pairs_ents es)
theorem KDct.of {P : Program} {w : World} {K : PySem.W.Frag} {a : Addr} {ep : Nat} (ents : List (Str × Addr × Tok)) (h : K.lookup a = some ⟨.type "dict", none, .dict (ents.map (entK w)).toArray ep, #[]⟩) (nd : (ents.map Prod.fst).Nodup) (sy : (a == sysModules) = false) : KDct P w K a (ents.map fun x => (x.1, x.2.1)) := by
  refine ⟨sy, by rw [List.map_map]; exact nd, _, _, _, h, ⟨rfl, rfl, rfl⟩, rfl, fun e he => ?_, by rw [List.toList_toArray]; exact pairs_ents ents⟩
  have he : e ∈ ents.map (entK w) := by simpa using he
  obtain ⟨x, hx, rfl⟩ := List.mem_map.mp he
  exact ⟨x.1, (show Value.isStrOf x.1 (Value.str x.1 x.2.2) = true by simp [Value.isStrOf]), rfl⟩
/-! ### sorted(xs, key=f): one of several f -/
end VS
namespace VS
open PySem L2 PySem.Spec PyProof.Rows
/-! ### max of three -/
end VS
namespace VS
open PySem L2 C8 PySem.Spec PyProof.Rows
/-! ### sorted of a list of texts -/
end VS
namespace VS
open PySem L2 C8 PySem.Spec PyProof.Rows
/-! ### sorted of a list of pairs of whole numbers -/
end VS
namespace VS
/-! ### pairs (number, place) sorted: the things sorted by the number, alike ones as they stood -/
end VS
namespace VS
open PySem L2 C8 PySem.Spec PyProof.Rows
/-! ### several lists known by reference, hidden for the time of a walk -/
theorem Mk.trans {S S1 S2 : Sto} {H H1 H2 : Hp} (a : Mk S H S1 H1) (b : Mk S1 H1 S2 H2) : Mk S H S2 H2 :=
  ⟨fun x o h1 h2 => b.keep x o (a.fresh x h1 (by rw [h2]; nofun)) (a.keep x o h1 h2), fun x h1 h2 => by
    cases e : H x with
    | none => exact absurd e h2
    | some o => exact b.fresh x (a.fresh x h1 h2) (by rw [a.keep x o h1 e]; nofun)⟩
end VS
namespace VS
open PySem L2 C8 PySem.Spec PyProof.Rows
/-! ### list.reverse; texts sorted, as the mergeSort of things by a text -/
end VS
namespace VS
open PySem L2 C8 PySem.Spec PyProof.Rows
/-! ### max(xs, default=d); list(d.values()) -/
end VS
namespace VS
open PySem L2 C8 PySem.Spec PyProof.Rows
/-! ### for k in d, d a dict by value: it is locked meanwhile, where it is not locked as yet -/
theorem CellOk.ml {K : PySem.W.Frag} {S S' : Sto} {H H' : Hp} {a : Addr} (m : Ml S H S' H') (e : H' a = H a) : ∀ {d : D}, CellOk K H S a d → CellOk K H' S' a d
  | .lst _, ⟨xs, h, r⟩ => ⟨xs, by rw [e]; exact h, r.ml m⟩
  | .dK _, ⟨xs, h, r⟩ => ⟨xs, by rw [e]; exact h, r.ml m⟩
  | .ins _ _, ⟨dx, fs, h, r⟩ => ⟨dx, fs, by rw [e]; exact h, r.ml m⟩
  | .hid, ⟨o, h⟩ => ⟨o, by rw [e]; exact h⟩
  | .str _, ⟨ps, h, t, w⟩ => ⟨ps, by rw [e]; exact h, t, fun pos cv hc =>
    let ⟨c, e1, e2, e3⟩ := w pos cv hc
    ⟨c, e1, m.fresh c e2 (by rw [e3]; simp), m.keep c _ e2 e3⟩⟩
theorem Cells.ml {K : PySem.W.Frag} {S T : Sto} {H H' : Hp} {a : Addr} (c : Cells K H S T) (s : T a = none) (m : Ml T H T H') (e : ∀ b, b ≠ a → H' b = H b) : Cells K H' S T :=
  ⟨c.ov, fun b d q => CellOk.ml m (e b (fun z => by subst z; rw [s] at q; cases q)) (c.ok b d q)⟩
theorem RepK.key {K : PySem.W.Frag} {H : Hp} {S : Sto} {k : Key} {v : V} : ∀ {vs : List (Key × V)} {ds : List (Key × D)} {i : Nat}, RepK K H S vs ds → vs[i]? = some (k, v) → ∃ d, ds[i]? = some (k, d)
  | _, _, _, .nil, e => by simp at e
  | _, _, 0, .cons _ _, e => by simp at e; obtain ⟨rfl, _⟩ := e; exact ⟨_, rfl⟩
  | _, _, i + 1, .cons _ t, e => by simpa using RepK.key (i := i) t (by simpa using e)
end VS
namespace VS
open PySem L2 C8 PySem.Spec PyProof.Rows
/-! ### [e for k in d if t], d a dict by value -/
end VS
namespace VS
open PySem L2
/-! ### some cells are known by value from now on -/
section
variable {K : PySem.W.Frag} {H : Hp} {S T : Sto} {A : Addr → Prop}
open Classical in
noncomputable def cutA (A : Addr → Prop) (T : Sto) : Sto := fun b => if A b then none else T b
theorem cutA_in {a : Addr} (h : A a) : cutA A T a = none := if_pos h
theorem cutA_out {a : Addr} (h : ¬ A a) : cutA A T a = T a := if_neg h
theorem cutA_none {a : Addr} (h : T a = none) : cutA A T a = none := by
  unfold cutA
  split
  · rfl
  · exact h
theorem cutA_some {a : Addr} {d : D} (e : cutA A T a = some d) : ¬ A a ∧ T a = some d := by
  unfold cutA at e
  split at e
  · cases e
  · rename_i h; exact ⟨h, e⟩
theorem mv_cut (hA : ∀ a, A a → T a ≠ some .hid) : Mv T H (cutA A T) H :=
  ⟨⟨fun _ _ _ h => h, fun _ s _ => cutA_none s⟩, fun a o s e => ⟨e, by rw [cutA_out (fun z => hA a z s)]; exact s⟩⟩
theorem Cells.cut (cl : Cells K H S T) (hA : ∀ a, A a → T a ≠ some .hid) : Cells K H (cutA A S) (cutA A T) := by
  refine ⟨fun a => ?_, fun a d e => ?_⟩
  · by_cases z : A a
    · exact .inl ⟨by rw [cutA_in z, cutA_in z], by rw [cutA_in z]; nofun⟩
    · rw [cutA_out z, cutA_out z]; exact cl.ov a
  · exact CellOk.mk (mv_cut hA).toMk rfl (cl.ok a d (cutA_some e).2)
end
end VS
namespace VS
open PySem L2 C8 PySem.Spec PyProof.Rows
/-! ### d != {}, d == {} -/
end VS
namespace VS
open PySem L2 C8 PySem.Spec PyProof.Rows
/-! ### k not in d, len(d) -/
end VS
namespace VS
open PySem L2 C8 PySem.Spec PyProof.Rows
/-! ### how long a shown dict is -/
structure ShK (xs : List (Key × D)) (n k : Nat) : Prop where
  p : isPK xs = true
  s : PyData.showableKv (pdK xs) = true
  l : piled (PyData.shownKv (pdK xs)) ≤ n
  d : PyData.depthKv (pdK xs) ≤ k
theorem ShK.nil : ShK [] 0 0 := ⟨rfl, rfl, Nat.le_refl _, Nat.le_refl _⟩
theorem ShK.cons {z : Str} {d : D} {ds : List (Key × D)} {n a b i j : Nat} (hz : Asc n z) (h : Sh d a i) (t : ShK ds b j) : ShK ((.inr z, d) :: ds) (10 * n + a + 6 + b) (max i j) := ⟨by
  show (isP d && isPK ds) = true
  rw [h.p, t.p]; rfl, by
  show (true && (pd d).showable && PyData.showableKv (pdK ds)) = true
  rw [h.s, t.s]; rfl, by
  show ((reprText z ++ ": " ++ (pd d).shown).length + 2) + piled (PyData.shownKv (pdK ds)) ≤ _
  have := h.l
  have := t.l
  have e := lit1
  have q : (reprText z).length ≤ 10 * n + 2 := (Sh.str hz).l
  rw [len_add, len_add]
  omega, by
  show max (max 0 (pd d).depth) (PyData.depthKv (pdK ds)) ≤ _
  have := h.d
  have := t.d
  omega⟩
end VS
namespace VS
open PySem L2 C8 PySem.Spec PyProof.Rows
/-! ### defs that call themselves; a local name that holds one of some defs -/
end VS
namespace VS
open PySem L2 C8 PySem.Spec PyProof.Rows
/-! ### xs.remove(x), flat items -/
section
variable {c : Ctx} {S : Sto} {F : D → Sto → Prop}
theorem rc_any {bs : List Bool} {x : D} (h : IsL S x (bs.map D.bl)) (q : F (.bl (bs.any id)) S) : RC c (rAny c.K) [x] S F := fun T us H cl r Q k => by
  cases r with
  | cons h1 t =>
    cases t
    obtain ⟨a, xs, rfl, s, r⟩ := h.rd cl h1
    have e := r.bls
    subst e
    exact ⟨a, bs, rfl, s, k _ _ S T H Mv.refl cl (.bl _) q⟩
end
end VS
namespace VS
open PySem L2 C8 PySem.Spec PyProof.Rows
/-! ### a dict's keys as a list known by reference; lists of lists seen by value -/
/-- lists known by reference, one by one -/
structure Rws (S : Sto) (as : List Addr) (yss : List (List D)) : Prop where
  l : as.length = yss.length
  at_ : ∀ (j : Nat) (a : Addr) (ys : List D), as[j]? = some a → yss[j]? = some ys → S a = some (.lst ys)
theorem Rws.nil {S : Sto} : Rws S [] [] := ⟨rfl, nofun⟩
theorem Rws.ge {S : Sto} {as : List Addr} {yss : List (List D)} (h : Rws S as yss) {j : Nat} (hj : j < yss.length) : ∃ a ys, as[j]? = some a ∧ yss[j]? = some ys ∧ S a = some (.lst ys) := by
  have e1 : as[j]? = some (as[j]'(by rw [h.l]; exact hj)) := List.getElem?_eq_getElem _
  have e2 : yss[j]? = some (yss[j]'hj) := List.getElem?_eq_getElem _
  exact ⟨_, _, e1, e2, h.at_ j _ _ e1 e2⟩
theorem Rws.mem {S : Sto} {as : List Addr} {yss : List (List D)} (h : Rws S as yss) {a : Addr} (ha : a ∈ as) : ∃ ys ∈ yss, S a = some (.lst ys) := by
  obtain ⟨j, hj⟩ := List.getElem?_of_mem ha
  obtain ⟨b, ys, e1, e2, e3⟩ := h.ge (j := j) (by rw [← h.l]; exact (List.getElem?_eq_some_iff.mp hj).1)
  rw [hj] at e1
  cases e1
  exact ⟨ys, List.mem_of_getElem? e2, e3⟩
theorem Rws.ext {S S' : Sto} {as : List Addr} {yss : List (List D)} (h : Rws S as yss) (x : Ext S S') : Rws S' as yss := ⟨h.l, fun j a ys e1 e2 => x _ _ (h.at_ j a ys e1 e2)⟩
theorem Rws.free {S : Sto} {as : List Addr} {yss : List (List D)} (h : Rws S as yss) {a : Addr} (ha : S a = none) : a ∉ as := fun z => by
  obtain ⟨ys, _, e⟩ := h.mem z
  rw [e] at ha
  cases ha
theorem Rws.new {S : Sto} {as : List Addr} {yss : List (List D)} (h : Rws S as yss) {a : Addr} {ys : List D} (ha : S a = none) : Rws (put S a (.lst ys)) (as ++ [a]) (yss ++ [ys]) := by
  refine ⟨by rw [List.length_append, List.length_append, h.l]; rfl, fun j b zs e1 e2 => ?_⟩
  by_cases hj : j < as.length
  · rw [List.getElem?_append_left hj] at e1
    rw [List.getElem?_append_left (by rw [← h.l]; exact hj)] at e2
    rw [put_ne (fun z => h.free ha (by rw [← z]; exact List.mem_of_getElem? e1))]
    exact h.at_ j b zs e1 e2
  · rw [List.getElem?_append_right (by omega)] at e1
    rw [List.getElem?_append_right (by rw [← h.l]; omega)] at e2
    obtain ⟨d, hd⟩ : ∃ d, d = j - as.length := ⟨_, rfl⟩
    rw [← hd] at e1
    rw [← h.l, ← hd] at e2
    cases d with
    | zero => cases e1; cases e2; exact put_same
    | succ d => cases e1
theorem Rws.wr {S : Sto} {as : List Addr} {yss : List (List D)} (h : Rws S as yss) (nd : as.Nodup) {i : Nat} {a : Addr} {ys : List D} (e : as[i]? = some a) : Rws (put S a (.lst ys)) as (yss.set i ys) := by
  have hi := (List.getElem?_eq_some_iff.mp e).1
  refine ⟨by rw [List.length_set]; exact h.l, fun j b zs e1 e2 => ?_⟩
  by_cases z : j = i
  · subst z
    rw [List.getElem?_set_self (by rw [← h.l]; exact hi)] at e2
    rw [e] at e1
    cases e1; cases e2
    exact put_same
  · rw [List.getElem?_set_ne (Ne.symm z)] at e2
    rw [put_ne (fun w => z ((List.getElem?_inj (List.getElem?_eq_some_iff.mp e1).1 nd).mp (by rw [e1, w, e])))]
    exact h.at_ j b zs e1 e2
end VS
namespace VS
open PySem L2 C8 PySem.Spec PyProof.Rows
/-! ### range(i, j, -1); list(range(n)) -/
end VS
namespace VS
open PySem L2 C8 PySem.Spec PyProof.Rows
/-- a method of a builtin type, K named (within comprehensions) -/
theorem kMt {X : Cx} {K : PySem.W.Frag} {m : String} {r : PySem.W.Frag → MR1} (c : MtR X m (r X.K)) (h : X.K = K := by rfl) : MtR X m (r K) := h ▸ c
end VS
namespace VS
open PySem L2 PySem.Spec PyProof.Rows PySem.VSX
/-! ### an own exception of two fields: its class, its making, raise -/
/-- what __init__ keeps: self.f = v; self.g = u -/
def spXi2 (C : Addr) (f g : Str) : Sp := fun vs H Q _ => ∃ (a : Addr) (v u : V), vs = [.ref a, v, u] ∧ H a = some (exo a C none) ∧ ∀ dx, H dx = none → dx ≠ a → Q .non (upd (upd H dx (exd dx [(g, u), (f, v)])) a (exo a C (some dx)))
def tRz2 (C : Addr) (f g : Str) (te tu : TE) (W : L2.St → XK) : TS := fun _ σ H => tMkO C (spXi2 C f g) [] (tCons te (tCons tu tNil)) σ H fun cls d H' => W σ cls d H'
section
variable {c : Ctx} {ρ : Rho} {S : Sto} {P : Po}
theorem xd_heap2 {H1 : Hp} {a C dx : Addr} {fs : List (Str × V)} (ha : H1 a = none) : upd (L2.del (upd (upd (upd H1 a (exo a C none)) dx (exd dx fs)) a (exo a C (some dx))) a) dx (.xd fs) = upd H1 dx (.xd fs) := by
  funext b
  by_cases z : b = dx
  · subst z; rw [upd_same, upd_same]
  · rw [upd_ne z, upd_ne z]
    by_cases y : b = a
    · subst y; rw [L2.del_same, ha]
    · rw [L2.del_ne y, upd_ne y, upd_ne z, upd_ne y]
theorem vx_raise2 {C : Addr} {f g : Str} {te tu : TE} (h : VE c te ρ S fun x S1 => VE c tu ρ S1 fun y S2 => c.Y C [(g, y), (f, x)] ρ S2) : VX c (tRz2 C f g te tu c.E) ρ S P := fun T σ H I D b =>
  h T σ H I _ fun v x S1 T1 H1 m1 c1 r1 h2 => h2 T1 σ H1 (I.mv m1 c1) _ fun u y S2 T2 H2 m2 c2 r2 q => by
    refine ⟨(by decide : 2 ≤ 1000), fun a na => ⟨a, v, u, rfl, upd_same, fun dx hdx ne => ⟨rfl, dx, [(g, u), (f, v)], upd_same, ?_, ?_, ?_⟩⟩⟩
    · rw [upd_ne ne, upd_same]
    · rw [upd_ne ne] at hdx; exact hdx
    · have hd : H2 dx = none := by rw [upd_ne ne] at hdx; exact hdx
      rw [xd_heap2 na]
      have mm := m1.trans m2
      have m3 := mm.trans (mv_new (o := .xd [(g, u), (f, v)]) hd)
      have cl := c2.new (o := .xd [(g, u), (f, v)]) hd
      exact I.exc σ ρ C (some dx) [(g, y), (f, x)] S2 T2 _ m3 cl (I.mv m3 cl).sl ⟨dx, [(g, u), (f, v)], rfl, c2.free hd, upd_same, .cons (r2.mv (mv_new hd)) (.cons ((r1.mv m2).mv (mv_new hd)) .nil)⟩ q
end
end VS
namespace VS
open PySem L2 PySem.Spec PyProof.Rows
/-! ### a comprehension over a list or a tuple that is a list known by reference -/
end VS
namespace VS
open PySem L2 C8 PySem.Spec PyProof.Rows
end VS
namespace VS
open PySem L2 C8 PySem.Spec PyProof.Rows
/-! ### zip of two or three, each a list or a tuple -/
/-- a list (true) or a tuple (false) -/
def SqB (b : Bool) (K : PySem.W.Frag) (H : Hp) (a : Addr) (xs : List V) : Prop := match b with
  | true => SqL K H a xs
  | false => SqT K H a xs
def TrB (b : Bool) (h : Heap) (i a : Addr) (k : Nat) : Prop := match b with
  | true => h.IsListIter i a k
  | false => h.IsTupleIter i a k
theorem TrB.at {b : Bool} {h h' : Heap} {i a : Addr} {k : Nat} (t : TrB b h i a k) (e : ∀ o, h.get? i = some o → h'.get? i = some o) : TrB b h' i a k := match b, t with
  | true, t => Heap.IsListIter.at t e
  | false, t => Heap.IsTupleIter.at t e
/-! ### by value -/
/-- a list or a tuple by value -/
inductive IsZ : D → List D → Bool → Prop
  | w {d : D} {ds : List D} (h : IsW d ds) : IsZ d ds true
  | t {ds : List D} : IsZ (.tup ds) ds false
theorem IsZ.rd {K : PySem.W.Frag} {T : Sto} {H : Hp} {x : D} {ds : List D} {b : Bool} {u : V} (h : IsZ x ds b) (r : Rep K H T u x) : ∃ a xs, u = .ref a ∧ (∀ T' H', Mv T H T' H' → SqB b K H' a xs) ∧ RepL K H T xs ds := by
  cases h with
  | w h => exact h.rd r
  | t => exact tup_stays r
end VS
namespace VS
open PySem L2 C8 PySem.Spec PyProof.Rows
/-! ### x or y, x a list: by its truth -/
theorem ve_orL {c : Ctx} {ρ : Rho} {S : Sto} {F : D → Sto → Prop} {ta tb : TE} (h : VE c ta ρ S fun x S1 => ∃ ds, IsL S1 x ds ∧ (ds ≠ [] → F x S1) ∧ (ds = [] → VE c tb ρ S1 F)) : VE c (tOrT c.K ta tb) ρ S F := fun T σ H I Q k =>
  h T σ H I _ fun vx x S1 T1 H1 m1 c1 r1 ⟨ds, hx, h1, h2⟩ => by
    obtain ⟨a, xs, rfl, s, r⟩ := hx.rd c1 r1
    refine ⟨!xs.isEmpty, .inl ⟨xs, s, rfl⟩, ?_⟩
    cases ds with
    | nil =>
      cases r
      exact iteF (h2 rfl T1 σ H1 (I.mv m1 c1) Q fun v d S3 T3 H3 m3 => k v d S3 T3 H3 (m1.trans m3))
    | cons d ds =>
      cases r
      exact iteT (k _ _ S1 T1 H1 m1 c1 r1 (h1 nofun))
end VS
namespace VS
open PySem L2 C8 PySem.Spec PyProof.Rows LamX NdefX
/-! ### a lambda of parameters, handed to sorted as its key -/
/-! ### its call -/
/-! ### sorted(xs, key=lambda x: ..) -/
/-! ### by value -/
/-! ### a def that makes lambdas: its code object is known -/
def CodeOf (K : PySem.W.Frag) (f : Addr) (cdv : Value) : Prop := ∃ (o : Obj) (fd : FuncData), K.lookup f = some o ∧ o.data = .func fd ∧ fd.code = cdv
theorem CodeOf.eq {K : PySem.W.Frag} {f : Addr} {u v : Value} (a : CodeOf K f u) (b : CodeOf K f v) : u = v := by
  obtain ⟨o, fd, h1, h2, h3⟩ := a
  obtain ⟨o', fd', g1, g2, g3⟩ := b
  rw [h1] at g1
  cases g1
  rw [h2] at g2
  cases g2
  rw [← h3, ← g3]
/-! ### the law's own call, tables of code objects among what it starts with -/
end VS
namespace VS
open PySem L2 C8 PySem.Spec PyProof.Rows
/-! ### sorted(set(a list of whole numbers)) -/
end VS
namespace VS
open PySem L2 C8 PySem.Spec PyProof.Rows
/-! ### dict(d), d[k] += z -/
end VS
namespace VS
open PySem L2 C8 PySem.Spec PyProof.Rows
/-! ### d != e, two dicts that tell the same flat things of the same keys -/
end VS
namespace VS
open PySem L2 C8 PySem.Spec PyProof.Rows
/-! ### list(zip(xs, reversed(ys))): the iterator from behind, within a zip -/
section
variable {pr : Program} {wd : World} {Ar : Around} {Er : Value → Shared → Prop} {sh : Shared}
theorem rv_step {it l : Addr} {i : Nat} {its : Array Value} {v : Value} {Q : Value → Shared → Prop} (hi : sh.heap.IsRevIter it l (i : Int)) (hl : sh.heap.IsList l its) (hv : its[i]? = some v)
    (q : ∀ g, g.IsRevIter it l ((i : Int) - 1) → Heap.SameBut it sh.heap g → Q v { sh with heap := g }) : wpAny (model pr wd) Ar (Builtin.SmallTypes.nextOf (.ref it)) Q Er sh := by
  obtain ⟨o, e1, e2, e3⟩ := id hi
  obtain ⟨p, f1, _, m, f2⟩ := hl
  unfold Builtin.SmallTypes.nextOf
  refine wpAny_bind (wpAny_callSpecial?_slot (name := Str.ofString "__next__") hi.typeIs F.slot_lri_next (wpAny_call_entry F.slot_lri_next hi.typeIs F.entry_lri_next ?_ (F.args_lri_next_1 _)))
  unfold Builtin.«list_reverseiterator.__next__»
  refine wpAny_bind (wpAny_of_eq (a := (Value.ref it, [])) rfl (wpAny_bind (wpAny_field e1 e3 (x := rawInt (i : Int)) rfl ?_)))
  show wpAny _ _ (if (i : Int) < 0 then _ else _) _ _ sh
  rw [if_neg (show ¬ (i : Int) < 0 by omega)]
  show wpAny _ _ (field (.ref it) 0 >>= _) _ _ sh
  refine wpAny_bind (wpAny_field e1 e3 (x := .ref l) rfl ?_)
  show wpAny _ _ (seqItems? (.ref l) >>= _) _ _ sh
  refine wpAny_bind (wpAny_seqItems f1 f2 ?_)
  simp only [Int.toNat_natCast, hv]
  refine wpAny_bind (wpAny_setField e1 e3 (by simp) ?_)
  first
  | refine wpAny_pure ⟨v, rfl, wpAny_pure (q _ ?_ (Heap.SameBut.update ..))⟩
  | refine wpAny_bind (wpAny_pure (wpAny_pure ⟨v, rfl, wpAny_pure (q _ ?_ (Heap.SameBut.update ..))⟩))
  exact ⟨_, Heap.get?_update_self _ e1 (Obj.isFreed_of_fields (Obj.data_mapFields e3 _)), (Obj.cls_mapFields ..).trans e2, by rw [Obj.data_mapFields e3]; simp⟩
theorem rv_stop {it l : Addr} {Q : Value → Shared → Prop} (hh : Ar.handled = none) (hi : sh.heap.IsRevIter it l (-1))
    (q : ∀ g e, Heap.ExtBut it sh.heap g → (∃ o, g.get? e = some o ∧ o.cls = .type "StopIteration") → Er (.ref e) { sh with heap := g }) : wpAny (model pr wd) Ar (Builtin.SmallTypes.nextOf (.ref it)) Q Er sh := by
  obtain ⟨o, e1, e2, e3⟩ := id hi
  unfold Builtin.SmallTypes.nextOf
  refine wpAny_bind (wpAny_callSpecial?_slot (name := Str.ofString "__next__") hi.typeIs F.slot_lri_next (wpAny_call_entry F.slot_lri_next hi.typeIs F.entry_lri_next ?_ (F.args_lri_next_1 _)))
  unfold Builtin.«list_reverseiterator.__next__»
  refine wpAny_bind (wpAny_of_eq (a := (Value.ref it, [])) rfl (wpAny_bind (wpAny_field e1 e3 (x := rawInt (-1)) rfl ?_)))
  show wpAny _ _ (if (-1 : Int) < 0 then _ else _) _ _ sh
  rw [if_pos (show (-1 : Int) < 0 by decide)]
  refine wpAny_bind (wpAny_rule ?_)
  first
  | show wpAny _ _ (newExc (.type "StopIteration") [] >>= _) _ _ _
  | (refine wpAny_bind ?_; show wpAny _ _ (newExc (.type "StopIteration") [] >>= _) _ _ _)
  refine wpAny_bind ?_
  simp only [newExc, newTuple]
  refine wpAny_bind (wpAny_newObj_type (wpAny_bind (m := firstArgMember _ _) (wpAny_of_eq (a := Value.none) (by first | rfl | (simp only [firstArgMember]; rfl)) (wpAny_newObj_type ?_ (by size_fits)))) (by size_fits))
  simp only [raiseNew]
  refine wpAny_bind (wpAny_handled ?_)
  first | rw [show Ar.in1.handled = none from hh] | rw [hh]
  refine wpAny_bind (wpAny_pure (wpAny_throw ?_))
  exact q _ _ (((Heap.ExtBut.refl _ _).push _).push _) ⟨_, Heap.get?_push_size _ rfl, rfl⟩
end
/-- the walk from behind -/
theorem drawsRev {pr : Program} {wd : World} {Ar : Around} (hh : Ar.handled = none) (it l : Addr) (hne : l ≠ it) (its : Array Value) :
    Draws pr wd Ar it [it, l] its.size (fun i v => its[its.size - 1 - i]? = some v) (fun i h => i ≤ its.size ∧ h.IsRevIter it l ((its.size : Int) - 1 - (i : Int)) ∧ h.IsList l its) where
  live := fun _ _ st => let ⟨o, ho, _⟩ := st.2.1; ⟨o, ho⟩
  frame := fun _ _ _ st hk => ⟨st.1, st.2.1.at fun o e => hk it (by simp) o e, st.2.2.at fun o e => hk l (by simp) o e⟩
  item := fun i s Q E hi st hQ => by
    have e : (its.size : Int) - 1 - (i : Int) = ((its.size - 1 - i : Nat) : Int) := by omega
    have hit := st.2.1
    rw [e] at hit
    have hx : its[its.size - 1 - i]? = some (its[its.size - 1 - i]'(by omega)) := Array.getElem?_eq_getElem (by omega)
    refine rv_step hit st.2.2 hx fun g hg hs => ?_
    have e2 : ((its.size - 1 - i : Nat) : Int) - 1 = (its.size : Int) - 1 - ((i + 1 : Nat) : Int) := by omega
    rw [e2] at hg
    exact hQ _ g s.toks hx ⟨hi, hg, st.2.2.at fun o eo => (hs.2 l hne).trans eo⟩ hs
  done := fun s Q E st hE => by
    have e : (its.size : Int) - 1 - (its.size : Int) = -1 := by omega
    have hit := st.2.1
    rw [e] at hit
    exact rv_stop hh hit fun g e' hg he => hE g e' hg he
section
variable {pr : Program} {wd : World} {Ar : Around} {Er : Value → Shared → Prop} {sh : Shared} {z TI TO T i1 i2 : Addr} {fa fb : List Addr} {na nb i : Nat} {Pa Pb : Nat → Value → Prop} {Sa Sb : Nat → Heap → Prop} {held : Bool} {oT : Obj}
theorem Draws.un {it : Addr} (D : Draws pr wd Ar it fa na Pa Sa) {j : Nat} {g g' : Heap} {c : Addr} (st : Sa j g) (k : Heap.SameBut c g g') (hc : c ∉ fa) : Sa j g' := D.frame j g g' st fun b hb o e => k.extBut b o (fun q => hc (q ▸ hb)) e
/-- a zip whose last pair is kept by others: a new pair -/
theorem zh_item (Z : ZipSep2 z TI TO i1 i2 fa fb) (Da : Draws pr wd Ar i1 fa na Pa Sa) (Db : Draws pr wd Ar i2 fb nb Pb Sb) (hz : IsZipHeld sh.heap z TI TO T held) (hT : sh.heap.get? T = some oT) (hI : IsTupOf2 sh.heap TI (.ref i1) (.ref i2))
    (sa : Sa i sh.heap) (sb : Sb i sh.heap) (la : i < na) (lb : i < nb) {Q : Value → Shared → Prop}
    (q : ∀ x y g tk, Pa i x → Pb i y → IsZipHeld g z TI TO T true → Sa (i + 1) g → Sb (i + 1) g → IsTupOf2 g sh.heap.objs.size x y → g.objs.size = sh.heap.objs.size + 1 → (∀ c o, c ≠ z → c ≠ i1 → c ≠ i2 → sh.heap.get? c = some o → g.get? c = some o) → Q (.ref sh.heap.objs.size) { sh with heap := g, toks := tk }) :
    wpAny (model pr wd) Ar (Builtin.«zip.__next__» ⟨[.ref z], []⟩) (fun fin s' => ∃ v, fin = .done (.ret v) ∧ Q v s') Er sh := by
  obtain ⟨hp, gg, dd, tk0, os⟩ := sh
  show wpAny _ _ (field (.ref z) 2 >>= _) _ _ _
  refine wpAny_bind (wpAny_field hz rfl (x := .bool false) rfl ?_)
  show wpAny _ _ (field (.ref z) 3 >>= _) _ _ _
  refine wpAny_bind (wpAny_field hz rfl (x := .ref TI) rfl (wpAny_bind (wpAny_seqItems hI rfl ?_)))
  show wpAny _ _ (Builtin.SmallTypes.ownedTupleIsFree (.ref z) >>= _) _ _ _
  refine wpAny_bind (wpAny_tupleHeld_zip hz hT fun g1 z1 k1 => ?_)
  replace z1 : IsZipHeld g1 z TI TO T true := z1
  replace k1 : Heap.SameBut z hp g1 := k1
  simp only [Bool.false_eq_true, if_false]
  refine wpAny_bind ?_
  rw [← Array.forIn_toList]
  simp only [List.forIn_cons, List.forIn_nil]
  refine wpAny_bind (wpAny_bind (wpAny_holding ?_))
  show wpAny _ _ (Builtin.SmallTypes.nextOf (.ref i1) >>= _) _ _ ⟨g1, gg, dd, tk0, os⟩
  refine wpAny_bind (Da.item i _ _ _ la (Draws.un Da sa k1 Z.zf1) fun x g2 tk1 px sa2 k2 => wpAny_pure (wpAny_pure ?_))
  replace k2 : Heap.SameBut i1 g1 g2 := k2
  refine wpAny_bind (wpAny_bind (wpAny_holding ?_))
  show wpAny _ _ (Builtin.SmallTypes.nextOf (.ref i2) >>= _) _ _ ⟨g2, gg, dd, tk1, os⟩
  refine wpAny_bind (Db.item i _ _ _ lb (Draws.un Db (Draws.un Db sb k1 Z.zf2) k2 Z.sep1_2) fun y g3 tk2 py sb3 k3 => wpAny_pure (wpAny_pure (wpAny_pure ?_)))
  replace k3 : Heap.SameBut i2 g2 g3 := k3
  show wpAny _ _ (newTuple [x, y] >>= _) _ _ _
  refine wpAny_bind (wpAny_newTuple (wpAny_pure ⟨_, rfl, ?_⟩))
  have sz : g3.objs.size = hp.objs.size := by rw [k3.1, k2.1, k1.1]
  show Q (.ref g3.objs.size) _
  have pp : IsTupOf2 (g3.push { cls := .type "tuple", data := .seq #[x, y] }) g3.objs.size x y := Heap.get?_push_size _ rfl
  have sz4 : (g3.push { cls := .type "tuple", data := .seq #[x, y] }).objs.size = g3.objs.size + 1 := Heap.size_push ..
  rw [sz] at pp sz4 ⊢
  have up : ∀ c o, c ≠ z → c ≠ i1 → c ≠ i2 → hp.get? c = some o → (g3.push { cls := .type "tuple", data := .seq #[x, y] }).get? c = some o := fun c o n1 n2 n3 e => Heap.get?_push_of_some _ (k3.extBut _ _ n3 (k2.extBut _ _ n2 (k1.extBut _ _ n1 e)))
  refine q x y _ tk2 px py (Heap.get?_push_of_some _ (k3.extBut _ _ (fun e => Z.zf2 (by rw [e]; exact Z.mem2)) (k2.extBut _ _ (fun e => Z.zf1 (by rw [e]; exact Z.mem1)) z1))) ?_ ?_ pp sz4 up
  · exact Da.frame _ _ _ (Draws.un Da sa2 k3 Z.sep2_1) fun b _ o e => Heap.get?_push_of_some _ e
  · exact Db.frame _ _ _ sb3 fun b _ o e => Heap.get?_push_of_some _ e
theorem zh_end (Z : ZipSep2 z TI TO i1 i2 fa fb) (Da : Draws pr wd Ar i1 fa na Pa Sa) (hz : IsZipHeld sh.heap z TI TO T held) (hT : sh.heap.get? T = some oT) (hI : IsTupOf2 sh.heap TI (.ref i1) (.ref i2)) (sa : Sa na sh.heap) {Q : Fin → Shared → Prop}
    (q : ∀ g e, (∀ c o, c ≠ z → c ≠ i1 → c ≠ i2 → sh.heap.get? c = some o → g.get? c = some o) → (∃ o, g.get? e = some o ∧ o.cls = .type "StopIteration") → Er (.ref e) { sh with heap := g }) :
    wpAny (model pr wd) Ar (Builtin.«zip.__next__» ⟨[.ref z], []⟩) Q Er sh := by
  obtain ⟨hp, gg, dd, tk0, os⟩ := sh
  show wpAny _ _ (field (.ref z) 2 >>= _) _ _ _
  refine wpAny_bind (wpAny_field hz rfl (x := .bool false) rfl ?_)
  show wpAny _ _ (field (.ref z) 3 >>= _) _ _ _
  refine wpAny_bind (wpAny_field hz rfl (x := .ref TI) rfl (wpAny_bind (wpAny_seqItems hI rfl ?_)))
  show wpAny _ _ (Builtin.SmallTypes.ownedTupleIsFree (.ref z) >>= _) _ _ _
  refine wpAny_bind (wpAny_tupleHeld_zip hz hT fun g1 z1 k1 => ?_)
  replace k1 : Heap.SameBut z hp g1 := k1
  simp only [Bool.false_eq_true, if_false]
  refine wpAny_bind ?_
  rw [← Array.forIn_toList]
  simp only [List.forIn_cons, List.forIn_nil]
  refine wpAny_bind (wpAny_bind (wpAny_holding ?_))
  show wpAny _ _ (Builtin.SmallTypes.nextOf (.ref i1) >>= _) _ _ ⟨g1, gg, dd, tk0, os⟩
  refine wpAny_bind (Da.done ⟨g1, gg, dd, tk0, os⟩ _ _ (Draws.un Da sa k1 Z.zf1) fun g2 e k2 he => ?_)
  replace k2 : Heap.ExtBut i1 g1 g2 := k2
  exact q g2 e (fun c o n1 n2 _ x => k2 _ _ n2 (k1.extBut _ _ n1 x)) he
theorem zh_next (Z : ZipSep2 z TI TO i1 i2 fa fb) (Da : Draws pr wd Ar.in1 i1 fa na Pa Sa) (Db : Draws pr wd Ar.in1 i2 fb nb Pb Sb) (hz : IsZipHeld sh.heap z TI TO T held) (hT : sh.heap.get? T = some oT) (hI : IsTupOf2 sh.heap TI (.ref i1) (.ref i2))
    (sa : Sa i sh.heap) (sb : Sb i sh.heap) (la : i < na) (lb : i < nb) {Q : Option Value → Shared → Prop}
    (q : ∀ x y g tk, Pa i x → Pb i y → IsZipHeld g z TI TO T true → Sa (i + 1) g → Sb (i + 1) g → IsTupOf2 g sh.heap.objs.size x y → g.objs.size = sh.heap.objs.size + 1 → (∀ c o, c ≠ z → c ≠ i1 → c ≠ i2 → sh.heap.get? c = some o → g.get? c = some o) → Q (some (.ref sh.heap.objs.size)) { sh with heap := g, toks := tk }) :
    wpAny (model pr wd) Ar (pyNext (.ref z)) Q Er sh := by
  have ty : sh.TypeIs (.ref z) "zip" := ⟨_, hz, rfl⟩
  unfold pyNext
  exact wpAny_bind (wpAny_attempt (wpAny_callSpecial?_slot (name := Str.ofString "__next__") ty F.slot_zip_next (wpAny_call_entry F.slot_zip_next ty F.entry_zip_next (zh_item Z Da Db hz hT hI sa sb la lb fun x y g tk a b c d e f h k => wpAny_pure (q x y g tk a b c d e f h k)) (F.args_zip_next_1 _))))
theorem zh_stop (Z : ZipSep2 z TI TO i1 i2 fa fb) (Da : Draws pr wd Ar.in1 i1 fa na Pa Sa) (hz : IsZipHeld sh.heap z TI TO T held) (hT : sh.heap.get? T = some oT) (hI : IsTupOf2 sh.heap TI (.ref i1) (.ref i2)) (sa : Sa na sh.heap) {Q : Option Value → Shared → Prop}
    (q : ∀ g, (∀ c o, c ≠ z → c ≠ i1 → c ≠ i2 → sh.heap.get? c = some o → g.get? c = some o) → Q none { sh with heap := g }) : wpAny (model pr wd) Ar (pyNext (.ref z)) Q Er sh := by
  have ty : sh.TypeIs (.ref z) "zip" := ⟨_, hz, rfl⟩
  unfold pyNext
  refine wpAny_bind (wpAny_attempt (wpAny_callSpecial?_slot (name := Str.ofString "__next__") ty F.slot_zip_next (wpAny_call_entry F.slot_zip_next ty F.entry_zip_next (zh_end Z Da hz hT hI sa fun g e k he => ?_) (F.args_zip_next_1 _))))
  obtain ⟨o, ho, hc⟩ := he
  exact wpAny_bind (wpAny_isInstance (T := "StopIteration") (b := true) ⟨o, ho, hc⟩ isSubtype_stop (wpAny_pure (q _ k)))
end
/-! ### a list made of a zip -/
/-- the pairs that were drawn -/
structure ZpG (Pa Pb : Nat → Value → Prop) (lo : Addr) (h : Heap) (as : List Addr) : Prop where
  rise : as.Pairwise (· < ·)
  above : ∀ a ∈ as, lo ≤ a
  pairs : ∀ (j : Nat) (a : Addr), as[j]? = some a → ∃ x y, Pa j x ∧ Pb j y ∧ IsTupOf2 h a x y
theorem ZpG.there {Pa Pb : Nat → Value → Prop} {lo : Addr} {h : Heap} {as : List Addr} (g : ZpG Pa Pb lo h as) {a : Addr} (ha : a ∈ as) : a < h.objs.size := by
  obtain ⟨j, hj⟩ := List.mem_iff_getElem?.mp ha
  obtain ⟨_, _, _, _, e⟩ := g.pairs j a hj
  exact Heap.lt_size e
section
variable {pr : Program} {wd : World} {Ar : Around} {sh : Shared} {z TI TO T i1 i2 : Addr} {fa fb : List Addr} {na nb : Nat} {Pa Pb : Nat → Value → Prop} {Sa Sb : Nat → Heap → Prop} {oT : Obj} {R : Result → Shared → Prop}
theorem zl_loop {S lo : Addr} (Z : ZipSep2 z TI TO i1 i2 fa fb) (Da : Draws pr wd Ar.in1.in1 i1 fa na Pa Sa) (Db : Draws pr wd Ar.in1.in1 i2 fb nb Pb Sb) (hn : na ≤ sizeLine) (hle : na ≤ nb)
    (Sz : S ≠ z) (S1 : S ≠ i1) (S2 : S ≠ i2) (Sa' : S ∉ fa) (Sb' : S ∉ fb) (SI : S ≠ TI) (ST : S ≠ T) (Tn : T ≠ z ∧ T ≠ i1 ∧ T ≠ i2) (In : TI ≠ z ∧ TI ≠ i1 ∧ TI ≠ i2) (lows : z < lo ∧ i1 < lo ∧ i2 < lo ∧ S < lo) (res : Value) {h₁ : Heap}
    (hR : ∀ h' tk acc c as, (∀ b o, b ≠ S → b ≠ z → b ≠ i1 → b ≠ i2 → h₁.get? b = some o → h'.get? b = some o) → h'.get? S = some { cls := .type "list", dict := none, data := .seq acc c, slots := #[] } → as.length = na → ZpG Pa Pb lo h' as →
      acc.toList = as.map Value.ref → R (.ok (.ret res)) { sh with heap := h', toks := tk }) :
    ∀ (k i : Nat) (h : Heap) (tk c : Nat) (held : Bool) (acc : Array Value) (as : List Addr), na - i = k → i ≤ na → lo ≤ h.objs.size → IsZipHeld h z TI TO T held → h.get? T = some oT → IsTupOf2 h TI (.ref i1) (.ref i2) → Sa i h → Sb i h →
      (∀ b o, b ≠ S → b ≠ z → b ≠ i1 → b ≠ i2 → h₁.get? b = some o → h.get? b = some o) → h.get? S = some { cls := .type "list", dict := none, data := .seq acc c, slots := #[] } → acc.toList = as.map Value.ref → as.length = i → ZpG Pa Pb lo h as →
      codeAny (model pr wd) Ar (.builtin "list.extend.loop" ⟨[.ref S, .ref z, res], []⟩) R { sh with heap := h, toks := tk } := by
  intro k
  induction k with
  | zero =>
    intro i h tk c held acc as hk hi hlo hz hT hI sa sb hkeep hS hacc hal hG
    have hin : i = na := by omega
    subst hin
    refine codeAny_builtin PySem.F.entry_extend_loop ?_
    rw [Around.under_plainId PySem.F.plain_extend_loop _]
    show wpAny _ Ar.in1 (pyNext (.ref z) >>= _) _ _ _
    refine wpAny_bind (zh_stop (sh := { sh with heap := h, toks := tk }) (Ar := Ar.in1) Z Da hz hT hI sa fun h' he => ?_)
    refine wpAny_pure (hR h' tk acc c as (fun b o n1 n2 n3 n4 e => he b o n2 n3 n4 (hkeep b o n1 n2 n3 n4 e)) (he S _ Sz S1 S2 hS) hal ⟨hG.rise, hG.above, fun j a hj => ?_⟩ hacc)
    obtain ⟨x, y, px, py, e3⟩ := hG.pairs j a hj
    have hb := hG.above a (List.mem_of_getElem? hj)
    exact ⟨x, y, px, py, he a _ (Nat.ne_of_gt (Nat.lt_of_lt_of_le lows.1 hb)) (Nat.ne_of_gt (Nat.lt_of_lt_of_le lows.2.1 hb)) (Nat.ne_of_gt (Nat.lt_of_lt_of_le lows.2.2.1 hb)) e3⟩
  | succ k ih =>
    intro i h tk c held acc as hk hi hlo hz hT hI sa sb hkeep hS hacc hal hG
    have hlt : i < na := by omega
    have hsz : acc.size = i := by rw [← Array.length_toList, hacc, List.length_map, hal]
    refine codeAny_builtin PySem.F.entry_extend_loop ?_
    rw [Around.under_plainId PySem.F.plain_extend_loop _]
    show wpAny _ Ar.in1 (pyNext (.ref z) >>= _) _ _ _
    refine wpAny_bind (zh_next (sh := { sh with heap := h, toks := tk }) (Ar := Ar.in1) Z Da Db hz hT hI sa sb hlt (by omega) fun x y g tk' px py hz' sa' sb' ht hgs hkp => ?_)
    dsimp only at ht hgs hkp ⊢
    have hS' := hkp S _ Sz S1 S2 hS
    have up : ∀ b o, b ≠ S → g.get? b = some o → (g.update S (Obj.mapSeq (·.push (Value.ref h.objs.size)))).get? b = some o := fun b o hb e => (Heap.get?_update_other _ _ (Ne.symm hb)).trans e
    have hSl : S < h.objs.size := Heap.lt_size hS
    show wpAny _ Ar.in1 (updateSeq S (·.push (Value.ref h.objs.size)) >>= _) _ _ _
    refine wpAny_bind ?_
    refine wpAny_updateSeq hS' rfl (wpAny_pure ⟨plainId_quiet PySem.F.plain_extend_loop _, ih (i + 1) _ tk' _ true (acc.push (Value.ref h.objs.size)) (as ++ [h.objs.size]) (by omega) hlt (by rw [Heap.size_update, hgs]; exact Nat.le_trans hlo (Nat.le_succ _)) (up z _ (Ne.symm Sz) hz') (up T _ (Ne.symm ST) (hkp T _ Tn.1 Tn.2.1 Tn.2.2 hT)) (up TI _ (Ne.symm SI) (hkp TI _ In.1 In.2.1 In.2.2 hI))
      (Da.frame _ _ _ sa' fun b hb o e => up b o (fun q => Sa' (q ▸ hb)) e) (Db.frame _ _ _ sb' fun b hb o e => up b o (fun q => Sb' (q ▸ hb)) e)
      (fun b o n1 n2 n3 n4 e => up b o n1 (hkp b o n2 n3 n4 (hkeep b o n1 n2 n3 n4 e))) (Heap.get?_update_self _ hS' rfl) (by rw [Array.toList_push, hacc, List.map_append]; rfl) (by rw [List.length_append, hal]; rfl) ⟨?_, ?_, ?_⟩⟩) (by rw [hsz]; omega) (by show (acc.push (Value.ref h.objs.size)).size ≤ sizeLine + 1; rw [Array.size_push, hsz]; omega)
    · refine List.pairwise_append.mpr ⟨hG.rise, List.pairwise_singleton _ _, fun a ha b hb => ?_⟩
      rw [List.mem_singleton.mp hb]
      exact hG.there ha
    · intro a ha
      rcases List.mem_append.mp ha with ha | ha
      · exact hG.above a ha
      · rw [List.mem_singleton.mp ha]; exact hlo
    · intro j b hj
      rcases Nat.lt_trichotomy j as.length with h1 | h1 | h1
      · rw [List.getElem?_append_left h1] at hj
        obtain ⟨x', y', px', py', e3⟩ := hG.pairs j b hj
        have hb := hG.above b (List.mem_of_getElem? hj)
        exact ⟨x', y', px', py', up b _ (Nat.ne_of_gt (Nat.lt_of_lt_of_le lows.2.2.2 hb)) (hkp b _ (Nat.ne_of_gt (Nat.lt_of_lt_of_le lows.1 hb)) (Nat.ne_of_gt (Nat.lt_of_lt_of_le lows.2.1 hb)) (Nat.ne_of_gt (Nat.lt_of_lt_of_le lows.2.2.1 hb)) e3)⟩
      · subst h1
        have hb : h.objs.size = b := by simpa using hj
        subst hb
        refine ⟨x, y, by rw [hal]; exact px, by rw [hal]; exact py, up _ _ (Nat.ne_of_gt hSl) ht⟩
      · have hnone : (as ++ [h.objs.size])[j]? = none := List.getElem?_eq_none (by rw [List.length_append, List.length_singleton]; omega)
        rw [hnone] at hj; cases hj
/-- from the first pair on -/
theorem zl_start {S lo : Addr} {a1 a2 : Value} (Z : ZipSep2 z TI TO i1 i2 fa fb) (Da : Draws pr wd Ar.in1.in1 i1 fa na Pa Sa) (Db : Draws pr wd Ar.in1.in1 i2 fb nb Pb Sb) (hn : na ≤ sizeLine) (hle : na ≤ nb)
    (Sz : S ≠ z) (S1 : S ≠ i1) (S2 : S ≠ i2) (Sa' : S ∉ fa) (Sb' : S ∉ fb) (SI : S ≠ TI) (SO : S ≠ TO) (In : TI ≠ z ∧ TI ≠ i1 ∧ TI ≠ i2) (lows : z < lo ∧ i1 < lo ∧ i2 < lo ∧ S < lo) (res : Value) {h₁ : Heap}
    (hR : ∀ h' tk acc c as, (∀ b o, b ≠ S → b ≠ z → b ≠ i1 → b ≠ i2 → b ≠ TO → h₁.get? b = some o → h'.get? b = some o) → h'.get? S = some { cls := .type "list", dict := none, data := .seq acc c, slots := #[] } → as.length = na → ZpG Pa Pb lo h' as →
      acc.toList = as.map Value.ref → R (.ok (.ret res)) { sh with heap := h', toks := tk })
    {h : Heap} {tk c : Nat} (hlo : lo ≤ h.objs.size) (hz : IsZip h z TI TO .none) (hI : IsTupOf2 h TI (.ref i1) (.ref i2)) (hO : IsTupOf2 h TO a1 a2) (sa : Sa 0 h) (sb : Sb 0 h)
    (hkeep : ∀ b o, b ≠ S → b ≠ z → b ≠ i1 → b ≠ i2 → b ≠ TO → h₁.get? b = some o → h.get? b = some o) (hS : h.get? S = some { cls := .type "list", dict := none, data := .seq #[] c, slots := #[] }) :
    codeAny (model pr wd) Ar (.builtin "list.extend.loop" ⟨[.ref S, .ref z, res], []⟩) R { sh with heap := h, toks := tk } := by
  refine codeAny_builtin PySem.F.entry_extend_loop ?_
  rw [Around.under_plainId PySem.F.plain_extend_loop _]
  show wpAny _ Ar.in1 (pyNext (.ref z) >>= _) _ _ _
  refine wpAny_bind ?_
  by_cases h0 : na = 0
  · refine wpAny_pyNext_zipD2_end (s := { sh with heap := h, toks := tk }) (A := Ar.in1) Z Da Db hz hI hO sa sb (Nat.zero_le _) (Nat.zero_le _) (.inl h0.symm) fun h' tk' he => ?_
    exact wpAny_pure (hR h' tk' #[] c [] (fun b o n1 n2 n3 n4 n5 e => he b o n2 n5 n3 n4 (hkeep b o n1 n2 n3 n4 n5 e)) (he S _ Sz SO S1 S2 hS) h0.symm ⟨.nil, nofun, fun j a hj => by simp at hj⟩ rfl)
  · refine wpAny_pyNext_zipD2_item (s := { sh with heap := h, toks := tk }) (A := Ar.in1) Z Da Db hz hI hO sa sb (by omega) (by omega) fun x y g tk' px py hz' hO' sa' sb' ht hgs hkp => ?_
    dsimp only at ht hgs hkp hz' ⊢
    have hS' := hkp S _ Sz SO S1 S2 hS
    have up : ∀ b o, b ≠ S → g.get? b = some o → (g.update S (Obj.mapSeq (·.push (Value.ref h.objs.size)))).get? b = some o := fun b o hb e => (Heap.get?_update_other _ _ (Ne.symm hb)).trans e
    have hSl : S < h.objs.size := Heap.lt_size hS
    have zl : z < h.objs.size := Heap.lt_size hz
    have far : ∀ b, b < lo → h.objs.size ≠ b := fun b hb => Nat.ne_of_gt (Nat.lt_of_lt_of_le hb hlo)
    show wpAny _ Ar.in1 (updateSeq S (·.push (Value.ref h.objs.size)) >>= _) _ _ _
    refine wpAny_bind ?_
    refine wpAny_updateSeq hS' rfl (wpAny_pure ⟨plainId_quiet PySem.F.plain_extend_loop _, ?_⟩) (by show 0 ≤ sizeLine; exact Nat.zero_le _) (by show 1 ≤ sizeLine + 1; exact Nat.succ_le_succ (Nat.zero_le _))
    refine zl_loop (T := h.objs.size) (lo := lo) (h₁ := g.update S (Obj.mapSeq (·.push (Value.ref h.objs.size)))) Z Da Db hn hle Sz S1 S2 Sa' Sb' SI (Nat.ne_of_lt hSl) ⟨far z lows.1, far i1 lows.2.1, far i2 lows.2.2.1⟩ In lows res ?_ (na - 1) 1 _ tk' _ false (#[].push (Value.ref h.objs.size)) [h.objs.size] rfl (by omega) (by rw [Heap.size_update, hgs]; exact Nat.le_trans hlo (Nat.le_succ _))
      (up z _ (Ne.symm Sz) hz') (up _ _ (Nat.ne_of_gt hSl) ht) (up TI _ (Ne.symm SI) (hkp TI _ In.1 Z.TITO In.2.1 In.2.2 hI)) (Da.frame _ _ _ sa' fun b hb o e => up b o (fun q => Sa' (q ▸ hb)) e) (Db.frame _ _ _ sb' fun b hb o e => up b o (fun q => Sb' (q ▸ hb)) e) ?_ (Heap.get?_update_self _ hS' rfl) rfl rfl ⟨List.pairwise_singleton _ _, fun a ha => ?_, fun j b hj => ?_⟩
    · exact fun h' tk acc c as k hS' hl hG ha => hR h' tk acc c as (fun b o n1 n2 n3 n4 n5 e => k b o n1 n2 n3 n4 (up b o n1 (hkp b o n2 n5 n3 n4 (hkeep b o n1 n2 n3 n4 n5 e)))) hS' hl hG ha
    · exact fun b o _ _ _ _ e => e
    · rw [List.mem_singleton.mp ha]; exact hlo
    · cases j with
      | zero =>
        have hb : h.objs.size = b := by simpa using hj
        subst hb
        exact ⟨x, y, px, py, up _ _ (Nat.ne_of_gt hSl) ht⟩
      | succ j => simp at hj
theorem zip_no_len : typeLookup (.type "zip") "__len__" = pure none := by rw [typeLookup_type, builtinLookup_eq_fast]; kernel_rfl
theorem zip_no_hint : typeLookup (.type "zip") "__length_hint__" = pure none := by rw [typeLookup_type, builtinLookup_eq_fast]; kernel_rfl
theorem zl_hint {Er : Value → Shared → Prop} {r : Addr} (hT : sh.TypeIs (.ref r) "zip") {Q : Bool → Shared → Prop} (h : Q true sh) : wpAny (model pr wd) Ar (Builtin.List.listLengthHint (.ref r)) Q Er sh := by
  unfold Builtin.List.listLengthHint
  refine wpAny_bind (wpAny_specialOf hT zip_no_len ?_)
  show wpAny _ _ (specialOf (Value.ref r) (Str.ofString "__length_hint__") >>= _) _ _ _
  refine wpAny_bind (wpAny_specialOf hT zip_no_hint ?_)
  exact wpAny_pure h
theorem zl_extend {S lo c₀ : Addr} {a1 a2 : Value} (Z : ZipSep2 z TI TO i1 i2 fa fb) (Da : Draws pr wd Ar.in1.in1 i1 fa na Pa Sa) (Db : Draws pr wd Ar.in1.in1 i2 fb nb Pb Sb) (hn : na ≤ sizeLine) (hle : na ≤ nb)
    (Sz : S ≠ z) (S1 : S ≠ i1) (S2 : S ≠ i2) (Sa' : S ∉ fa) (Sb' : S ∉ fb) (SI : S ≠ TI) (SO : S ≠ TO) (In : TI ≠ z ∧ TI ≠ i1 ∧ TI ≠ i2) (lows : z < lo ∧ i1 < lo ∧ i2 < lo ∧ S < lo) (res : Value)
    (hlo : lo ≤ sh.heap.objs.size) (hz : IsZip sh.heap z TI TO .none) (hI : IsTupOf2 sh.heap TI (.ref i1) (.ref i2)) (hO : IsTupOf2 sh.heap TO a1 a2) (sa : Sa 0 sh.heap) (sb : Sb 0 sh.heap) (hS : sh.heap.get? S = some { cls := .type "list", data := .seq #[] c₀ })
    (hR : ∀ h' tk acc c as, (∀ b o, b ≠ S → b ≠ z → b ≠ i1 → b ≠ i2 → b ≠ TO → sh.heap.get? b = some o → h'.get? b = some o) → h'.get? S = some { cls := .type "list", dict := none, data := .seq acc c, slots := #[] } → as.length = na → ZpG Pa Pb lo h' as →
      acc.toList = as.map Value.ref → R (.ok (.ret res)) { sh with heap := h', toks := tk }) :
    wpAny (model pr wd) Ar.in1 (Builtin.List.listExtendWith (.ref S) (.ref z) res)
      (fun fin s' => match fin with | .done f => R (.ok f) s' | .again c' => c'.quiet = true ∧ codeAny (model pr wd) Ar c' R s') (fun e s' => R (.error e) s') sh := by
  have key : ∀ (h : Heap) (c₁ tk : Nat), h.objs.size = sh.heap.objs.size → (∀ b o, b ≠ S → sh.heap.get? b = some o → h.get? b = some o) → h.get? S = some { cls := .type "list", data := .seq #[] c₁ } →
      codeAny (model pr wd) Ar (.builtin "list.extend.loop" ⟨[.ref S, .ref z, res], []⟩) R { sh with heap := h, toks := tk } := fun h c₁ tk hsz hk hS₁ =>
    zl_start (h₁ := sh.heap) Z Da Db hn hle Sz S1 S2 Sa' Sb' SI SO In lows res hR (by rw [hsz]; exact hlo) (hk z _ (Ne.symm Sz) hz) (hk TI _ (Ne.symm SI) hI) (hk TO _ (Ne.symm SO) hO) (Da.frame _ _ _ sa fun b hb o e => hk b o (fun q => Sa' (q ▸ hb)) e) (Db.frame _ _ _ sb fun b hb o e => hk b o (fun q => Sb' (q ▸ hb)) e) (fun b o n _ _ _ _ e => hk b o n e) hS₁
  have hT : sh.TypeIs (.ref z) "zip" := ⟨_, hz, rfl⟩
  unfold Builtin.List.listExtendWith
  refine wpAny_bind (wpAny_typeOf (T := "zip") hT ?_)
  have h1 : Builtin.List.listSameRef (.ref S) (.ref z) = false := by simp [Builtin.List.listSameRef, Sz]
  have h2 : (Value.type "zip" == Value.type "list") = false := by decide
  have h3 : (Value.type "zip" == Value.type "tuple") = false := by decide
  simp only [h1, h2, h3, Bool.or_false, Bool.false_eq_true, if_false]
  refine wpAny_bind (wpAny_pyIter_zip hz ?_)
  refine wpAny_bind (wpAny_holding (zl_hint hT ?_))
  refine wpAny_ite_split (fun _ => ?_) (fun _ => wpAny_pure ⟨plainId_quiet PySem.F.plain_extend_loop _, key _ c₀ _ rfl (fun b o _ e => e) hS⟩)
  refine wpAny_bind (wpAny_rule ?_)
  refine wpAny_bind ?_
  show wpAny _ _ (updateSeq S (·.push .none) >>= fun _ => updateSeq S (·.pop)) _ _ _
  refine wpAny_bind (wpAny_updateSeq hS rfl ?_)
  have hS₂ := Heap.get?_update_self (Obj.mapSeq (·.push Value.none)) hS rfl
  refine wpAny_updateSeq (hz := by seq_fits) hS₂ rfl ?_
  have hS₃ := Heap.get?_update_self (Obj.mapSeq (·.pop)) hS₂ rfl
  refine wpAny_pure ⟨plainId_quiet PySem.F.plain_extend_loop _, key _ _ _ (by rw [Heap.size_update, Heap.size_update]) (fun b o hb e => ?_) hS₃⟩
  exact (Heap.get?_update_other _ _ (Ne.symm hb)).trans ((Heap.get?_update_other _ _ (Ne.symm hb)).trans e)
theorem zl_init {S lo : Addr} {a1 a2 : Value} (Z : ZipSep2 z TI TO i1 i2 fa fb) (Da : Draws pr wd Ar.in1.in1 i1 fa na Pa Sa) (Db : Draws pr wd Ar.in1.in1 i2 fb nb Pb Sb) (hn : na ≤ sizeLine) (hle : na ≤ nb)
    (Sz : S ≠ z) (S1 : S ≠ i1) (S2 : S ≠ i2) (Sa' : S ∉ fa) (Sb' : S ∉ fb) (SI : S ≠ TI) (SO : S ≠ TO) (In : TI ≠ z ∧ TI ≠ i1 ∧ TI ≠ i2) (lows : z < lo ∧ i1 < lo ∧ i2 < lo ∧ S < lo)
    (hlo : lo ≤ sh.heap.objs.size) (hz : IsZip sh.heap z TI TO .none) (hI : IsTupOf2 sh.heap TI (.ref i1) (.ref i2)) (hO : IsTupOf2 sh.heap TO a1 a2) (sa : Sa 0 sh.heap) (sb : Sb 0 sh.heap) (hS : sh.heap.get? S = some { cls := .type "list", data := .seq #[] })
    (hR : ∀ h' tk acc c as, (∀ b o, b ≠ S → b ≠ z → b ≠ i1 → b ≠ i2 → b ≠ TO → sh.heap.get? b = some o → h'.get? b = some o) → h'.get? S = some { cls := .type "list", dict := none, data := .seq acc c, slots := #[] } → as.length = na → ZpG Pa Pb lo h' as →
      acc.toList = as.map Value.ref → R (.ok (.ret .none)) { sh with heap := h', toks := tk }) :
    wpAny (model pr wd) Ar.in1 (Builtin.«list.__init__» ⟨[.ref S, .ref z], []⟩)
      (fun fin s' => match fin with | .done f => R (.ok f) s' | .again c' => c'.quiet = true ∧ codeAny (model pr wd) Ar c' R s') (fun e s' => R (.error e) s') sh := by
  show wpAny _ _ (do let old ← Builtin.List.listItems (.ref S); Builtin.List.listUpdate (.ref S) (fun _ => #[]); letGo old.toList.reverse; Builtin.List.listExtendWith (.ref S) (.ref z) .none) _ _ sh
  refine wpAny_bind ?_
  unfold Builtin.List.listItems
  refine wpAny_bind (wpAny_seqItems hS rfl (wpAny_pure ?_))
  show wpAny _ _ (updateSeq S (fun _ => #[]) >>= fun _ => letGo (#[] : Array Value).toList.reverse >>= fun _ => Builtin.List.listExtendWith (.ref S) (.ref z) .none) _ _ sh
  refine wpAny_bind (wpAny_updateSeq hS rfl ?_)
  have hS₂ := Heap.get?_update_self (Obj.mapSeq (fun _ => (#[] : Array Value))) hS rfl
  have oth : ∀ b o, b ≠ S → sh.heap.get? b = some o → (sh.heap.update S (Obj.mapSeq (fun _ => (#[] : Array Value)))).get? b = some o :=
    fun b o hb e => (Heap.get?_update_other _ _ (Ne.symm hb)).trans e
  refine wpAny_bind (wpAny_letGo ?_)
  exact zl_extend (sh := { sh with heap := sh.heap.update S (Obj.mapSeq (fun _ => (#[] : Array Value))) }) Z Da Db hn hle Sz S1 S2 Sa' Sb' SI SO In lows .none (by show lo ≤ (sh.heap.update S _).objs.size; rw [Heap.size_update]; exact hlo) (oth z _ (Ne.symm Sz) hz) (oth TI _ (Ne.symm SI) hI) (oth TO _ (Ne.symm SO) hO)
    (Da.frame _ _ _ sa fun b hb o e => oth b o (fun q => Sa' (q ▸ hb)) e) (Db.frame _ _ _ sb fun b hb o e => oth b o (fun q => Sb' (q ▸ hb)) e) hS₂ fun h' tk acc c as k hS' hl hG ha => hR h' tk acc c as (fun b o n1 n2 n3 n4 n5 e => k b o n1 n2 n3 n4 n5 (oth b o n1 e)) hS' hl hG ha
/-- list(z), z a zip of two that is new -/
theorem zl_call {Er : Value → Shared → Prop} {Q : Value → Shared → Prop} {a1 a2 : Value} (Z : ZipSep2 z TI TO i1 i2 fa fb) (Da : Draws pr wd Ar.in1.in1.in1 i1 fa na Pa Sa) (Db : Draws pr wd Ar.in1.in1.in1 i2 fb nb Pb Sb) (hn : na ≤ sizeLine) (hle : na ≤ nb)
    (In : TI ≠ z ∧ TI ≠ i1 ∧ TI ≠ i2) (hz : IsZip sh.heap z TI TO .none) (hI : IsTupOf2 sh.heap TI (.ref i1) (.ref i2)) (hO : IsTupOf2 sh.heap TO a1 a2) (sa : Sa 0 sh.heap) (sb : Sb 0 sh.heap) (la : ∀ b ∈ fa, b < sh.heap.objs.size) (lb : ∀ b ∈ fb, b < sh.heap.objs.size)
    (hQ : ∀ h' tk acc c as, (∀ b o, b ≠ z → b ≠ i1 → b ≠ i2 → b ≠ TO → sh.heap.get? b = some o → h'.get? b = some o) → h'.get? sh.heap.objs.size = some { cls := .type "list", dict := none, data := .seq acc c, slots := #[] } → as.length = na → ZpG Pa Pb (sh.heap.objs.size + 1) h' as →
      acc.toList = as.map Value.ref → Q (.ref sh.heap.objs.size) { sh with heap := h', toks := tk }) :
    wpAny (model pr wd) Ar (call (.type "list") [.ref z]) Q Er sh := by
  refine callType_codes (Q₁ := fun obj s₁ => obj = .ref sh.heap.objs.size ∧ s₁ = { sh with heap := sh.heap.push { cls := .type "list", data := .seq #[] } }) PySem.F.called_list (PySem.F.typeCall_list_1 _) PySem.F.entry_list_init
    (code_list_new _ ⟨rfl, rfl⟩) fun obj s₁ h₁ => ?_
  obtain ⟨rfl, rfl⟩ := h₁
  have hS : (sh.heap.push { cls := .type "list", data := .seq #[] }).get? sh.heap.objs.size = some { cls := .type "list", data := .seq #[] } := Heap.get?_push_size _ rfl
  have zl : z < sh.heap.objs.size := Heap.lt_size hz
  have l1 := la i1 Z.mem1
  have l2 := lb i2 Z.mem2
  have up : ∀ b o, sh.heap.get? b = some o → (sh.heap.push { cls := .type "list", data := .seq #[] }).get? b = some o := fun b o e => Heap.get?_push_of_some _ e
  refine ⟨⟨_, hS, rfl⟩, PySem.F.args_list_init_2 _ _, zl_init (Ar := Ar.in1) (lo := sh.heap.objs.size + 1) Z Da Db hn hle (Nat.ne_of_gt zl) (Nat.ne_of_gt l1) (Nat.ne_of_gt l2) (fun m => Nat.lt_irrefl _ (la _ m)) (fun m => Nat.lt_irrefl _ (lb _ m)) (Nat.ne_of_gt (Heap.lt_size hI)) (Nat.ne_of_gt (Heap.lt_size hO)) In
    ⟨Nat.lt_succ_of_lt zl, Nat.lt_succ_of_lt l1, Nat.lt_succ_of_lt l2, Nat.lt_succ_self _⟩ (Nat.le_of_eq (Heap.size_push ..).symm) (up _ _ hz) (up _ _ hI) (up _ _ hO) (Da.frame _ _ _ sa fun b _ o e => up b o e) (Db.frame _ _ _ sb fun b _ o e => up b o e) hS fun h' tk acc c as k hS' hl hG ha => ?_⟩
  exact ⟨rfl, hQ h' tk acc c as (fun b o n1 n2 n3 n4 e => k b o (Nat.ne_of_lt (Heap.lt_size e)) n1 n2 n3 n4 (up b o e)) hS' hl hG ha⟩
end
/-! ### zip(xs, i), i an iterator from behind -/
abbrev zRH1 (h : Heap) (l1 : Addr) : Heap := h.push { cls := .type "list_iterator", data := .fields #[.ref l1, .int 0 0] }
abbrev zRH3 (h : Heap) (l1 it : Addr) : Heap := (zRH1 h l1).push { cls := .type "tuple", data := .seq #[.ref h.objs.size, .ref it] }
abbrev zRH4 (h : Heap) (l1 it : Addr) : Heap := (zRH3 h l1 it).push { cls := .type "tuple", data := .seq #[.none, .none] }
abbrev zRH5 (h : Heap) (l1 it : Addr) : Heap := (zRH4 h l1 it).push { cls := .type "zip", data := .fields #[.none, .bool false, .bool false, .ref (zRH1 h l1).objs.size, .ref (zRH3 h l1 it).objs.size] }
theorem meets_zipR_new (l1 it l2 : Addr) (i : Int) (xs : Array Value) :
    Meets (Builtin.«zip.__new__» ⟨[.type "zip", .ref l1, .ref it], []⟩) (fun _ R s => s.heap.IsList l1 xs ∧ s.heap.IsRevIter it l2 i ∧
      R (.ok (.ret (.ref (zRH4 s.heap l1 it).objs.size))) { s with heap := zRH5 s.heap l1 it }) :=
  .of_wp fun prog w A R s h => by
    obtain ⟨hp, g, d, tk, os⟩ := s; obtain ⟨hl1, hl2, h⟩ := h
    have hsub := sub_zip
    have hL1 : Heap.IsList (Shared.heap ⟨hp, g, d, tk, os⟩) l1 xs := hl1
    have hL2 : Heap.IsRevIter (Shared.heap ⟨hp.push { cls := .type "list_iterator", data := .fields #[.ref l1, .int 0 0] }, g, d, tk, os⟩) it l2 i := by
      obtain ⟨o, e1, e2, e3⟩ := hl2
      exact ⟨o, Heap.get?_push_of_some _ e1, e2, e3⟩
    wp_walk using wpAny_pyIter_list hL1, wpAny_pyIter_revIter hL2
    exact ⟨_, rfl, h⟩
section
variable {pr : Program} {wd : World} {Ar : Around} {Er : Value → Shared → Prop} {sh : Shared}
theorem call_zipR {l1 it l2 : Addr} {i : Int} {xs : Array Value} {Q : Value → Shared → Prop} (hl1 : sh.heap.IsList l1 xs) (hl2 : sh.heap.IsRevIter it l2 i)
    (h : ∀ h', IsZip h' (sh.heap.objs.size + 3) (sh.heap.objs.size + 1) (sh.heap.objs.size + 2) .none → IsTupOf2 h' (sh.heap.objs.size + 1) (.ref sh.heap.objs.size) (.ref it) → IsTupOf2 h' (sh.heap.objs.size + 2) .none .none → h'.IsListIter sh.heap.objs.size l1 0 →
      h'.objs.size = sh.heap.objs.size + 4 → (∀ c o, sh.heap.get? c = some o → h'.get? c = some o) → Q (.ref (sh.heap.objs.size + 3)) { sh with heap := h' }) :
    wpAny (model pr wd) Ar (call (.type "zip") [.ref l1, .ref it]) Q Er sh := by
  refine callType_new F.called_zip (by decide) (F.typeCall_zip_2 _ _) (F.newCall_zip_2 _ _) (fun obj => F.args_object_init_3 obj _ _) F.entry_zip_new
    (meets_zipR_new l1 it l2 i xs) ⟨hl1, hl2, ?_⟩
  have z1 : (zRH1 sh.heap l1).objs.size = sh.heap.objs.size + 1 := Heap.size_push ..
  have z3 : (zRH3 sh.heap l1 it).objs.size = sh.heap.objs.size + 2 := by rw [Heap.size_push, z1]
  have z4 : (zRH4 sh.heap l1 it).objs.size = sh.heap.objs.size + 3 := by rw [Heap.size_push, z3]
  have z5 : (zRH5 sh.heap l1 it).objs.size = sh.heap.objs.size + 4 := by rw [Heap.size_push, z4]
  have g5 : (zRH5 sh.heap l1 it).get? (zRH4 sh.heap l1 it).objs.size = some _ := Heap.get?_push_size _ rfl
  have g4 : (zRH5 sh.heap l1 it).get? (zRH3 sh.heap l1 it).objs.size = some _ := Heap.get?_push_of_some _ (Heap.get?_push_size _ rfl)
  have g3 : (zRH5 sh.heap l1 it).get? (zRH1 sh.heap l1).objs.size = some _ := Heap.get?_push_of_some _ (Heap.get?_push_of_some _ (Heap.get?_push_size _ rfl))
  have g1 : (zRH5 sh.heap l1 it).get? sh.heap.objs.size = some _ := Heap.get?_push_of_some _ (Heap.get?_push_of_some _ (Heap.get?_push_of_some _ (Heap.get?_push_size _ rfl)))
  show _ ∧ _
  rw [z1, z3, z4] at g5
  rw [z1] at g3
  rw [z3] at g4
  rw [z4]
  exact ⟨⟨_, g5, rfl⟩, h _ g5 g3 g4 ⟨_, g1, rfl, rfl⟩ z5 fun c o x => Heap.get?_push_of_some _ (Heap.get?_push_of_some _ (Heap.get?_push_of_some _ (Heap.get?_push_of_some _ x)))⟩
end
/-! ### the list of pairs, tracked -/
/-- the pairs tracked at their addresses -/
def putP : Hp → List Addr → List (V × V) → Hp
  | H, a :: as, p :: ps => putP (upd H a (.tup [p.1, p.2])) as ps
  | H, _, _ => H
theorem putP_off {b : Addr} : ∀ (as : List Addr) (ps : List (V × V)) (H : Hp), b ∉ as → putP H as ps b = H b
  | [], _, _, _ => rfl
  | _ :: _, [], _, _ => rfl
  | a :: as, p :: ps, H, h => by
    show putP (upd H a (.tup [p.1, p.2])) as ps b = H b
    rw [putP_off as ps _ (fun z => h (List.mem_cons_of_mem _ z)), upd_ne (fun z => h (by rw [z]; exact List.mem_cons_self))]
theorem putP_at : ∀ (as : List Addr) (ps : List (V × V)) (H : Hp), as.length = ps.length → as.Nodup → Paired (fun (t : Addr) (p : V × V) => putP H as ps t = some (.tup [p.1, p.2])) as ps
  | [], [], _, _, _ => .nil
  | [], _ :: _, _, h, _ => by cases h
  | _ :: _, [], _, h, _ => by cases h
  | a :: as, p :: ps, H, h, hn => by
    have hn' := List.nodup_cons.mp hn
    refine .cons ?_ (putP_at as ps (upd H a (.tup [p.1, p.2])) (Nat.succ.inj h) hn'.2)
    show putP (upd H a (.tup [p.1, p.2])) as ps a = some (.tup [p.1, p.2])
    rw [putP_off as ps _ hn'.1, upd_same]
theorem pairs_laid {X : Cx} {pins : List (Addr × Obj)} {σ : L2.St} {H : Hp} {s : Shared} {h' : Heap} {tk l : Nat} {ps : List (V × V)} {Pa Pb : Nat → Value → Prop} {acc : Array Value} {c : Nat} {as : List Addr} (I : Inv X pins σ H s) (hz : ps.length ≤ sizeLine)
    (hk : ∀ b o, s.heap.get? b = some o → h'.get? b = some o) (ln : s.heap.objs.size ≤ l) (hS : h'.get? l = some { cls := .type "list", dict := none, data := .seq acc c, slots := #[] }) (hl : as.length = ps.length) (hG : ZpG Pa Pb (l + 1) h' as) (hacc : acc.toList = as.map Value.ref)
    (rel : ∀ (j : Nat) (p : V × V) (x y : Value), ps[j]? = some p → Pa j x → Pb j y → RelV p.1 x ∧ RelV p.2 y) :
    ∃ H' : Hp, (∀ b o, H b = some o → H' b = some o) ∧ H l = none ∧ (∀ t ∈ as, H t = none) ∧ as.Nodup ∧ l ∉ as ∧ H' l = some (.lst (as.map V.ref)) ∧ Paired (fun (t : Addr) (q : V × V) => H' t = some (.tup [q.1, q.2])) as ps ∧ (∀ b, b ∉ as → b ≠ l → H' b = H b) ∧ Inv X pins σ H' { s with heap := h', toks := tk } := by
  have hSn : l ∉ as := fun z => Nat.lt_irrefl _ (hG.above _ z)
  have nd : as.Nodup := List.Pairwise.imp (fun {a b} (h : a < b) => Nat.ne_of_lt h) hG.rise
  have big : ∀ t ∈ as, s.heap.objs.size ≤ t := fun t ht => Nat.le_trans ln (Nat.le_of_lt (hG.above t ht))
  have new : ∀ t ∈ as, H t = none := fun t ht => I.hok.fresh (big t ht)
  have newS : H l = none := I.hok.fresh ln
  have atP := putP_at as ps (upd H l (.lst (as.map V.ref))) hl nd
  have off : ∀ b, b ∉ as → b ≠ l → putP (upd H l (.lst (as.map V.ref))) as ps b = H b := fun b h1 h2 => by rw [putP_off as ps _ h1, upd_ne h2]
  have low : ∀ b o, s.heap.get? b = some o → b ∉ as ∧ b ≠ l := fun b o e => ⟨fun z => absurd (Heap.lt_size e) (Nat.not_lt.mpr (big b z)), Nat.ne_of_lt (Nat.lt_of_lt_of_le (Heap.lt_size e) ln)⟩
  have kp : ∀ b u, H b = some u → (putP (upd H l (.lst (as.map V.ref))) as ps) b = some u := fun b u e => by
    rw [off b (fun z => by rw [new b z] at e; cases e) (fun z => by rw [z, newS] at e; cases e)]
    exact e
  have eS : putP (upd H l (.lst (as.map V.ref))) as ps l = some (.lst (as.map V.ref)) := by rw [putP_off as ps _ hSn, upd_same]
  refine ⟨putP (upd H l (.lst (as.map V.ref))) as ps, kp, newS, new, nd, hSn, eS, atP, off, ?_⟩
  refine I.call' (ch := []) rfl ⟨fun b o q _ _ _ => hk b o q, fun b o q _ _ _ => ⟨o.slots, hk b o q⟩, fun b o q n _ => ?_, fun b o q _ => ⟨o, hk b o q⟩, fun b xs q => kp b _ q, fun b o u q => kp b _ q, fun b ps q => ⟨#[], by rw [kp b _ q]; simp⟩⟩ (fun b u q => ?_) I.bare fun b z => by simp at z
  · obtain ⟨z1, z2⟩ := low b o q
    rw [off b z1 z2]
    exact n
  · by_cases hb : b ∈ as
    · obtain ⟨j, pk, e1, e2, e3⟩ := LiI.paired_ix atP hb
      rw [e3] at q
      cases q
      obtain ⟨x, y, f1, f2, f3⟩ := hG.pairs j b e1
      obtain ⟨r1, r2⟩ := rel j pk x y e2 f1 f2
      exact ⟨by show 2 ≤ sizeLine; decide, [x, y], .cons r1 (.cons r2 .nil), ⟨_, f3, rfl, _, rfl⟩⟩
    · by_cases hb2 : b = l
      · rw [hb2] at q ⊢
        rw [eS] at q
        cases q
        refine ⟨by rw [List.length_map]; omega, acc.toList, c, by rw [hacc]; exact LiI.vals_refs as, ?_⟩
        rw [Array.toArray_toList]
        exact hS
      · rw [off b hb hb2] at q
        exact (I.hok b u q).stay (fun d v _ y => hk d v y) (fun d y => kp d _ y) fun d xs y => kp d _ y
/-! ### the expression list(zip(xs, reversed(ys))) -/
def PairsL (K : PySem.W.Frag) (H2 : Hp) (ps : List (V × V)) (Q : V → Hp → Prop) : Prop :=
  ∀ (H' : Hp) (p : Addr) (ts : List Addr), (∀ b o, H2 b = some o → H' b = some o) → H2 p = none → (∀ t ∈ ts, H2 t = none) → ts.Nodup → p ∉ ts → (∀ b, b ∉ ts → b ≠ p → H' b = H2 b) → H' p = some (.lst (ts.map V.ref)) → Paired (fun (t : Addr) (q : V × V) => H' t = some (.tup [q.1, q.2])) ts ps → Q (.ref p) H'
def tZipRev (K : PySem.W.Frag) (ta tb : TE) : TE := fun σ H Q => ta σ H fun u H1 => tb σ H1 fun v H2 => ∃ (a : Addr) (xs : List V) (b : Addr) (ys : List V), u = .ref a ∧ v = .ref b ∧ SqL K H2 a xs ∧ SqL K H2 b ys ∧ xs.length = ys.length ∧ PairsL K H2 (xs.zip ys.reverse) Q
section
variable {X : Cx} {e1 e2 : Expr} {t1 t2 : TE} {p p1 p2 pos pos1 pos2 : Pos}
theorem in_lt1 {n a c : Nat} (la : a < n) (h : c ∈ [n + 1, a]) : c < n + 1 + 4 := by simp at h; omega
theorem in_lt2 {n a c : Nat} (la : a < n) (h : c ∈ [n, a]) : c < n + 1 + 4 := by simp at h; omega
theorem ne_nat {x y : Nat} (h : x < y ∨ y < x) : x ≠ y := by omega
theorem zipSep_at {n a b : Nat} (la : a < n) (lb : b < n) : ZipSep2 (n + 1 + 3) (n + 1 + 1) (n + 1 + 2) (n + 1) n [n + 1, a] [n, b] := by
  have m : ∀ {x y z : Nat}, x ≠ y → x ≠ z → x ∉ [y, z] := fun h1 h2 h => by
    rcases List.mem_cons.mp h with h | h
    · exact h1 h
    · exact h2 (List.mem_singleton.mp h)
  exact ⟨ne_nat (by omega), ne_nat (by omega), ne_nat (by omega), ne_nat (by omega), List.mem_cons_self, m (ne_nat (by omega)) (ne_nat (by omega)), m (ne_nat (by omega)) (ne_nat (by omega)), ne_nat (by omega), List.mem_cons_self, m (ne_nat (by omega)) (ne_nat (by omega)), m (ne_nat (by omega)) (ne_nat (by omega)), m (ne_nat (by omega)) (ne_nat (by omega)), m (ne_nat (by omega)) (ne_nat (by omega))⟩
theorem zipAt {α β : Type} {xs : List α} {ys : List β} {j : Nat} {q : α × β} (h : (xs.zip ys)[j]? = some q) : xs[j]? = some q.1 ∧ ys[j]? = some q.2 := by
  obtain ⟨a, b⟩ := q
  exact List.getElem?_zip_eq_some.mp h
theorem pe_zipRev (hc : X.calm = true) (hg : Gl X "list") (hm : X.mg "list" = none) (hv : bootBuiltins "list" = some (.type "list")) (hg1 : Gl X "zip") (hm1 : X.mg "zip" = none) (hg2 : Gl X "reversed") (hm2 : X.mg "reversed" = none) (h1 : PE X e1 t1) (h2 : PE X e2 t2)
    (hs0 : starEach [.Call (.Name "zip" p1) [e1, .Call (.Name "reversed" p2) [e2] [] pos2] [] pos1] X.env = (false, eval (.Call (.Name "zip" p1) [e1, .Call (.Name "reversed" p2) [e2] [] pos2] [] pos1) X.env) :: starEach [] X.env := by rfl)
    (hs1 : starEach [e1, .Call (.Name "reversed" p2) [e2] [] pos2] X.env = (false, eval e1 X.env) :: starEach [.Call (.Name "reversed" p2) [e2] [] pos2] X.env := by rfl)
    (hs2 : starEach [.Call (.Name "reversed" p2) [e2] [] pos2] X.env = (false, eval (.Call (.Name "reversed" p2) [e2] [] pos2) X.env) :: starEach [] X.env := by rfl)
    (hs3 : starEach [e2] X.env = (false, eval e2 X.env) :: starEach [] X.env := by rfl)
    (hpl : (backTo pos1 (starEach [.Call (.Name "reversed" p2) [e2] [] pos2] X.env)).any (·.1) = false := by rfl) :
    PE X (.Call (.Name "list" p) [.Call (.Name "zip" p1) [e1, .Call (.Name "reversed" p2) [e2] [] pos2] [] pos1] [] pos) (tZipRev X.K t1 t2) := by
  refine ⟨fun pins s σ H Q I h => ?_⟩
  refine Call_ (ld_blt I hg hm hv (PyProof.Rows.callWith_type1 (args_cons (Call_ (ld_blt I hg1 hm1 PyProof.Rows.boot_zip (PyProof.Rows.callWith_type1 (args_cons (thn (h1.run pins s σ H _ I h) fun u s1 ⟨v, H1, I1, r1, q1⟩ => args_cons (Call_ (ld_blt I1 hg2 hm2 PyProof.Rows.boot_reversed (PyProof.Rows.callWith_type1 (args_cons (thn (h2.run pins s1 σ H1 _ I1 q1) fun u2 s2 ⟨v2, H2, I2, r2, q2⟩ => args_nil ?_) hs3) hs3 rfl))) hs2) hs1) hs1 hpl))) hs0) hs0 rfl))
  obtain ⟨a, xs, b, ys, ev, ev2, hqx, hqy, hl, q⟩ := q2
  subst ev ev2
  obtain rfl : u = Value.ref a := r1
  obtain rfl : u2 = Value.ref b := r2
  obtain ⟨its, rv, pa, hza⟩ := I2.list hqx
  obtain ⟨its2, rv2, pb, hzb⟩ := I2.list hqy
  have la : a < s2.heap.objs.size := pa.lt
  have lb : b < s2.heap.objs.size := pb.lt
  refine call_reversed_list pb.isList (args_nil ?_)
  have hne : b ≠ s2.heap.objs.size := Nat.ne_of_lt lb
  have hsz : (s2.heap.push (revObj b ((its2.toArray.size : Int) - 1))).objs.size = s2.heap.objs.size + 1 := Heap.size_push ..
  have hrv : (s2.heap.push (revObj b ((its2.toArray.size : Int) - 1))).IsRevIter s2.heap.objs.size b ((its2.toArray.size : Int) - 1) := ⟨_, Heap.get?_push_size _ rfl, rfl, rfl⟩
  refine call_zipR (sh := { s2 with heap := s2.heap.push (revObj b ((its2.toArray.size : Int) - 1)) }) (pa.isList.push _) hrv fun h' hz hTI hTO hli hsz' hk => args_nil ?_
  dsimp only at hz hTI hTO hli hsz' hk
  rw [hsz] at hz hTI hTO hli hsz'
  have hk0 : ∀ c o, s2.heap.get? c = some o → h'.get? c = some o := fun c o e => hk c o (Heap.get?_push_of_some _ e)
  have hk1 : h'.get? s2.heap.objs.size = some _ := hk _ _ (Heap.get?_push_size _ rfl)
  have n1 : its.toArray.size = xs.length := by rw [List.size_toArray, rv.length]
  have n2 : its2.toArray.size = ys.length := by rw [List.size_toArray, rv2.length]
  have hh : X.A.handled = none := I2.ok.hd hc
  show wpAny _ _ (call (.type "list") [.ref ((s2.heap.push (revObj b ((its2.toArray.size : Int) - 1))).objs.size + 3)]) _ _ { s2 with heap := h' }
  rw [hsz]
  have ka : h'.IsList a its.toArray := pa.isList.at fun o e => hk0 a o e
  have kb : h'.IsList b its2.toArray := pb.isList.at fun o e => hk0 b o e
  have Z : ZipSep2 (s2.heap.objs.size + 1 + 3) (s2.heap.objs.size + 1 + 1) (s2.heap.objs.size + 1 + 2) (s2.heap.objs.size + 1) s2.heap.objs.size [s2.heap.objs.size + 1, a] [s2.heap.objs.size, b] := zipSep_at la lb
  have big : ∀ c, c < s2.heap.objs.size → c ≠ s2.heap.objs.size + 1 + 3 ∧ c ≠ s2.heap.objs.size + 1 ∧ c ≠ s2.heap.objs.size ∧ c ≠ s2.heap.objs.size + 1 + 2 := fun c hc => by omega
  refine zl_call (sh := { s2 with heap := h' }) Z (Draws.list (by simpa using hh) _ a (ne_nat (.inl (Nat.lt_succ_of_lt la))) its.toArray) (drawsRev (by simpa using hh) _ b hne its2.toArray) (by rw [n1]; have := hza; omega) (by omega)
    ⟨ne_nat (by omega), ne_nat (by omega), ne_nat (by omega)⟩ hz hTI hTO ⟨hli, ka⟩ ⟨Nat.zero_le _, ?_, kb⟩ ?_ ?_ fun h'' tk acc c as hkk hS hl' hG hacc => ?_
  · obtain ⟨o, e1, e2, e3⟩ := hrv
    exact ⟨o, hk _ _ e1, e2, by rw [e3]; simp⟩
  · intro c hc'
    show c < h'.objs.size
    rw [hsz']
    exact in_lt1 la hc'
  · intro c hc'
    show c < h'.objs.size
    rw [hsz']
    exact in_lt2 lb hc'
  · obtain ⟨H', k1, k2, k3, nd, k4, k5, k6, k7, J⟩ := pairs_laid (ps := xs.zip ys.reverse) (tk := tk) I2 (by rw [List.length_zip, List.length_reverse]; omega) (fun c o e => by
        obtain ⟨w1, w2, w3, w4⟩ := big c (Heap.lt_size e)
        exact hkk c o w1 w2 w3 w4 (hk0 c o e)) (by dsimp only; omega) hS (by rw [hl', List.length_zip, List.length_reverse]; omega) hG hacc fun j pq x y hj hx hy => by
        obtain ⟨f1, f2⟩ := zipAt hj
        obtain ⟨u1, g1, g2⟩ := rv.get f1
        rw [List.getElem?_toArray] at hx
        rw [g1] at hx
        cases hx
        refine ⟨g2, ?_⟩
        have hj2 : j < ys.length := by have := (List.getElem?_eq_some_iff.mp f2).1; rwa [List.length_reverse] at this
        rw [List.getElem?_reverse hj2, ← n2] at f2
        obtain ⟨u2, g3, g4⟩ := rv2.get f2
        rw [List.getElem?_toArray, g3] at hy
        cases hy
        exact g4
    exact ⟨.ref h'.objs.size, H', J, rfl, q H' _ as k1 k2 k3 nd k4 k7 k5 k6⟩
end
/-! ### by value -/
theorem rep_pairs {K : PySem.W.Frag} {H' : Hp} {T : Sto} {ts : List Addr} {ps : List (V × V)} (p : Paired (fun (t : Addr) (q : V × V) => H' t = some (.tup [q.1, q.2])) ts ps) (fr : ∀ t ∈ ts, T t = none) :
    ∀ {qs : List (D × D)}, Paired (fun (a : V × V) (b : D × D) => Rep K H' T a.1 b.1 ∧ Rep K H' T a.2 b.2) ps qs → RepL K H' T (ts.map V.ref) (qs.map fun q => .tup [q.1, q.2]) := by
  induction p with
  | nil => intro qs h; cases h; exact .nil
  | cons h t ih =>
    intro qs hq
    cases hq with
    | cons a b => exact .cons (.tup (fr _ List.mem_cons_self) h (.cons a.1 (.cons a.2 .nil))) (ih (fun t ht => fr t (List.mem_cons_of_mem _ ht)) b)
theorem rep_zip {K : PySem.W.Frag} {H : Hp} {T : Sto} : ∀ {xs ys : List V} {ds es : List D}, RepL K H T xs ds → RepL K H T ys es → Paired (fun (a : V × V) (b : D × D) => Rep K H T a.1 b.1 ∧ Rep K H T a.2 b.2) (xs.zip ys) (ds.zip es)
  | _, _, _, _, .nil, _ => by simp; exact .nil
  | _, _, _, _, .cons _ _, .nil => by simp; exact .nil
  | _, _, _, _, .cons a b, .cons c d => .cons ⟨a, c⟩ (rep_zip b d)
def prT (q : D × D) : D := .tup [q.1, q.2]
section
variable {c : Ctx} {ρ : Rho} {S : Sto} {F : D → Sto → Prop}
theorem mv_more {T : Sto} {H H' : Hp} (kp : ∀ b o, H b = some o → H' b = some o) : Mv T H T H' := ⟨⟨fun a o _ h => kp a o h, fun a s _ => s⟩, fun a o s h => ⟨kp a o h, s⟩⟩
theorem Cells.more {K : PySem.W.Frag} {S T : Sto} {H H' : Hp} (c : Cells K H S T) (kp : ∀ b o, H b = some o → H' b = some o) : Cells K H' S T := ⟨c.ov, fun a d e => by
  have q := c.ok a d e
  refine CellOk.mv (mv_more kp) ?_ q
  cases h : H a with
  | none => exact absurd h q.there
  | some o => exact kp a o h⟩
theorem ve_pairs {T : Sto} {H2 : Hp} {Q : V → Hp → Prop} {xs ys : List V} {ds es : List D} {S2 : Sto} (cl : Cells c.K H2 S2 T) (ra : RepL c.K H2 T xs ds) (rb : RepL c.K H2 T ys es)
    (k : ∀ v d S' T' H', Mv T H2 T' H' → Cells c.K H' S' T' → Rep c.K H' T' v d → F d S' → Q v H') (q : F (.lst ((ds.zip es).map prT)) S2) : PairsL c.K H2 (xs.zip ys) Q := fun H' p ts kp np nt nd nn off hp pa =>
  k _ _ S2 T H' (mv_more kp) (cl.more kp) (.lst (cl.free np) hp (rep_pairs pa (fun t ht => cl.free (nt t ht)) (rep_zip (ra.mv (mv_more kp)) (rb.mv (mv_more kp))))) q
theorem ve_zipRev {ta tb : TE} (h : VE c ta ρ S fun x S1 => VE c tb ρ S1 fun y S2 => ∃ ds es, IsW x ds ∧ IsW y es ∧ ds.length = es.length ∧ F (.lst ((ds.zip es.reverse).map prT)) S2) : VE c (tZipRev c.K ta tb) ρ S F := fun T σ H I Q k =>
  h T σ H I _ fun u x S1 T1 H1 m1 c1 r1 h1 => h1 T1 σ H1 (I.mv m1 c1) _ fun v y S2 T2 H2 m2 c2 r2 ⟨ds, es, hx, hy, e, q⟩ => by
    obtain ⟨a, xs, rfl, hqa, ra⟩ := hx.rd (r1.mv m2)
    obtain ⟨b, ys, rfl, hqb, rb⟩ := hy.rd r2
    exact ⟨a, xs, b, ys, rfl, rfl, hqa _ _ Mv.refl, hqb _ _ Mv.refl, by rw [ra.length, rb.length, e], ve_pairs c2 ra (RepL.rev rb) (fun v d S' T' H' m3 => k v d S' T' H' (m1.trans (m2.trans m3))) q⟩
end
end VS
namespace VS
open PySem L2 C8 PySem.Spec PyProof.Rows
/-! ### dict(a list of pairs), divmod, upper -/
def rDivmod : CR1 := fun xs H Q => ∃ i j, xs = [.int i, .int j] ∧ CDiv i j ∧ ∀ p, H p = none → Q (.ref p) (upd H p (.tup [.int (i / j), .int (i % j)]))
theorem c_divmod {X : Cx} : CallR X (.builtin "divmod") rDivmod := call_divmod
section
variable {c : Ctx} {ρ : Rho} {S : Sto} {F : D → Sto → Prop}
theorem rc_divmod {i j : Int} (h : 0 < j ∧ j < 1073741824) (q : F (.tup [.int (i / j), .int (i % j)]) S) : RC c rDivmod [.int i, .int j] S F := fun T us H cl r Q k => by
  cases r with
  | cons h1 t =>
    cases t with
    | cons h2 t =>
      cases t
      cases h1
      cases h2
      exact ⟨i, j, rfl, h, fun p hp => k _ _ S T _ (mv_new hp) (cl.new hp) (.tup (cl.free hp) upd_same (.cons (.int _) (.cons (.int _) .nil))) q⟩
end
end VS
namespace VS
open PySem L2 C8 PySem.Spec PyProof.Rows L2H
/-! ### own defs called where an exception is handled (they let nothing out, and walk over nothing) -/
theorem _root_.L2H.RoomH.units {k : Nat} {A : Around} (r : RoomH k A) : A.units + 64 < cLine := by have := r.un; omega
theorem _root_.L2H.RoomH.units0 {k : Nat} {A : Around} (r : RoomH k A) : A.units < cLine := by have := r.un; omega
end VS
namespace VS
open PySem L2 C8 PySem.Spec PyProof.Rows
/-! ### partition, index of a sign, list(reversed(a list)) -/
end VS
namespace VS
open PySem L2 C8 PySem.Spec PyProof.Rows L2H
/-! ### != by an own def, where an exception is handled -/
section
variable {X : Cx} {k : Nat} {f C : Addr} {fd : FuncData} {ps : List Str} {sp : Sp} {A : Around}
theorem _root_.L2H.RoomH.in1 {k : Nat} {A : Around} (r : RoomH (k + 1) A) : RoomH k A.in1 :=
  ⟨by have := r.dp; show A.depth + 3 * k + 5 < _; omega, by have := r.un; show A.units + 1 + 16 * k + 200 < _; omega⟩
end
/-! ### try .. except .. else -/
def tTryE (K : PySem.W.Frag) (tb : WX → TS) (l : List Cla) (u : TS) : TS := fun D σ H => tb (wCla K D l) { D with nx := u D } σ H
theorem vx_tryE {c : Ctx} {ρ : Rho} {S : Sto} {P : Po} {tb : WX → TS} {l : List Cla} {u : TS} (h : ∀ E' : L2.St → XK, VX ⟨c.K, E', fun C fs ρ' S' => HdV c P l C fs ρ' S'⟩ (tb (fun cls d σ H => E' σ cls d H)) ρ S { P with nx := fun ρ' S' => VX c u ρ' S' P }) :
    VX c (tTryE c.K tb l u) ρ S P := fun T σ H I Dn b => by
  have key : ∀ (l : List Cla) (σ' : L2.St) (ρ' : Rho) (C : Addr) (d : Option Addr) (fs : List (Str × D)) (S' T' : Sto) (H' : Hp), Mv T H T' H' → Cells c.K H' S' T' → Sl c.K H' T' σ' ρ' → XRep c.K H' T' d fs → HdV c P l C fs ρ' S' → wCla c.K Dn l (.ref C) d σ' H' := by
    intro l
    induction l with
    | nil => exact fun _ _ _ _ _ _ _ _ _ _ _ _ y => y.elim
    | cons k r ih =>
      rintro σ' ρ' C d fs S' T' H' m cl sl ⟨dd, fv, rfl, sd, hd, rf⟩ ⟨bb, e, yes, no⟩
      refine ⟨bb, e, fun z a na => ?_, fun z => ih σ' ρ' C _ fs S' T' H' m cl sl ⟨dd, fv, rfl, sd, hd, rf⟩ (no z)⟩
      have I2 : In c σ' H' ρ' S' T' := ⟨cl, sl.slots, sl.len, (I.mv m cl).exc⟩
      have rx : Rep c.K H' T' (.ref a) (.xcp a dd C fs) := .xcp sd hd rf
      have I3 : In c (inSl k.i a σ') H' (inR k.i (.xcp a dd C fs) ρ') S' T' := by
        cases k.i with
        | none => exact I2
        | some i => exact I2.set i rx
      exact yes z a dd T' _ H' I3 _ ((b.mv m).off k.i)
  have I' : In ⟨c.K, fun σ cls d H => wCla c.K Dn l cls d σ H, fun C fs ρ' S' => HdV c P l C fs ρ' S'⟩ σ H ρ S T := ⟨I.cells, I.slots, I.len, fun σ' ρ' C d fs S' T' H' m cl sl x y => key l σ' ρ' C d fs S' T' H' m cl sl x y⟩
  have b' : Bh ⟨c.K, fun σ cls d H => wCla c.K Dn l cls d σ H, fun C fs ρ' S' => HdV c P l C fs ρ' S'⟩ { P with nx := fun ρ' S' => VX c u ρ' S' P } { Dn with nx := u Dn } T H :=
    ⟨fun σ' ρ' S' T' H' m J q => q T' σ' H' ⟨J.cells, J.slots, J.len, (I.mv m J.cells).exc⟩ Dn (b.mv m), fun v d S' T' H' m cl r q => b.rt v d S' T' H' m cl r q,
     fun σ' ρ' S' T' H' m J q => b.bk σ' ρ' S' T' H' m ⟨J.cells, J.slots, J.len, (I.mv m J.cells).exc⟩ q, fun σ' ρ' S' T' H' m J q => b.ct σ' ρ' S' T' H' m ⟨J.cells, J.slots, J.len, (I.mv m J.cells).exc⟩ q⟩
  exact h (fun σ cls d H => wCla c.K Dn l cls d σ H) T σ H I' _ b'
end VS
namespace VS
open PySem L2 C8 PySem.Spec PyProof.Rows
/-! ### range(0, j, 2) -/
end VS
namespace VS
open PySem L2 C8 PySem.Spec PyProof.Rows
/-! ### a dict != a text -/
end VS
namespace VS
open PySem L2 C8 PySem.Spec PyProof.Rows
/-! ### xs[k::2] -/
/-- every second thing, from the first on -/
def evs {α : Type} : List α → List α
  | [] => []
  | [a] => [a]
  | a :: _ :: t => a :: evs t
theorem evs_length {α : Type} : ∀ xs : List α, (evs xs).length ≤ xs.length
  | [] => Nat.le_refl _
  | [_] => Nat.le_refl _
  | a :: b :: t => by
    have := evs_length t
    show (evs t).length + 1 ≤ t.length + 2
    omega
theorem evs_map {α β : Type} (f : α → β) : ∀ xs : List α, evs (xs.map f) = (evs xs).map f
  | [] => rfl
  | [_] => rfl
  | a :: b :: t => by
    show f a :: evs (t.map f) = f a :: (evs t).map f
    rw [evs_map f t]
theorem evs_pick {α : Type} (xs : List α) : ∀ (n lo : Nat), xs.length - lo ≤ n → (List.range ((xs.length - lo + 1) / 2)).filterMap (fun k => xs[lo + 2 * k]?) = evs (xs.drop lo)
  | 0, lo, h => by
    have e : xs.length - lo = 0 := by omega
    rw [e, List.drop_of_length_le (by omega)]
    rfl
  | n + 1, lo, h => by
    by_cases h0 : xs.length - lo = 0
    · rw [h0, List.drop_of_length_le (by omega)]
      rfl
    have hl : lo < xs.length := by omega
    by_cases h1 : xs.length - lo = 1
    · have hd : xs.drop lo = [xs[lo]] := by
        rw [List.drop_eq_getElem_cons hl, List.drop_of_length_le (by omega)]
      rw [h1, hd]
      show ([0].filterMap fun k => xs[lo + 2 * k]?) = [xs[lo]]
      rw [List.filterMap_cons, show xs[lo + 2 * 0]? = some xs[lo] from List.getElem?_eq_getElem hl]
      rfl
    · have hl2 : lo + 1 < xs.length := by omega
      have hd : xs.drop lo = xs[lo] :: xs[lo + 1] :: xs.drop (lo + 2) := by
        rw [List.drop_eq_getElem_cons hl, List.drop_eq_getElem_cons hl2]
      have e : (xs.length - lo + 1) / 2 = (xs.length - (lo + 2) + 1) / 2 + 1 := by omega
      rw [e, hd, List.range_succ_eq_map, List.filterMap_cons, List.filterMap_map]
      have h2 : xs[lo + 2 * 0]? = some xs[lo] := List.getElem?_eq_getElem hl
      rw [h2]
      show xs[lo] :: _ = xs[lo] :: evs (xs.drop (lo + 2))
      rw [← evs_pick xs n (lo + 2) (by omega)]
      refine congrArg _ (congrArg (List.filterMap · _) (funext fun k => ?_))
      show xs[lo + 2 * (k + 1)]? = xs[lo + 2 + 2 * k]?
      rw [show lo + 2 * (k + 1) = lo + 2 + 2 * k by omega]
theorem pick_ev (items : Array Value) (k : Nat) : slicePick items (some (k : Int)) none (some 2) = (evs (items.toList.drop k)).toArray := by
  have hb : sliceBounds (some (k : Int)) none (some 2) items.size = (((min k items.size : Nat) : Int), (items.size : Int), 2) := by
    unfold sliceBounds
    simp only [Option.getD_some, show (2 : Int) > 0 from by decide, if_true, show ¬ ((k : Int) < 0) from by omega, if_false]
    refine Prod.ext ?_ rfl
    show max (0 : Int) (min (k : Int) (items.size : Int)) = ((min k items.size : Nat) : Int)
    omega
  unfold slicePick
  rw [hb]
  show ((sliceRange ((min k items.size : Nat) : Int) (items.size : Int) 2).filterMap (items[·]?)).toArray = _
  have hr : sliceRange ((min k items.size : Nat) : Int) (items.size : Int) 2 = (List.range ((items.toList.length - min k items.size + 1) / 2)).map fun j => min k items.size + 2 * j := by
    unfold sliceRange
    rw [Array.length_toList]
    simp only [show (2 : Int) > 0 from by decide, if_true]
    have ec : (if ((min k items.size : Nat) : Int) < (items.size : Int) then ((items.size : Int) - ((min k items.size : Nat) : Int) + 2 - 1) / 2 else 0).toNat = (items.size - min k items.size + 1) / 2 := by
      split <;> omega
    rw [ec]
    refine List.map_congr_left fun j _ => ?_
    omega
  rw [hr, List.filterMap_map]
  have hd : items.toList.drop k = items.toList.drop (min k items.size) := by
    by_cases h : k ≤ items.size
    · rw [Nat.min_eq_left h]
    · rw [Nat.min_eq_right (by omega), List.drop_of_length_le (by rw [Array.length_toList]; omega), List.drop_of_length_le (by rw [Array.length_toList]; exact Nat.le_refl _)]
  rw [hd, ← evs_pick items.toList _ (min k items.size) (Nat.le_refl _)]
  refine congrArg List.toArray (congrArg (List.filterMap · _) (funext fun j => ?_))
  show items[min k items.size + 2 * j]? = items.toList[min k items.size + 2 * j]?
  rw [Array.getElem?_toList]
theorem vals_drop {xs : List V} {us : List Value} (h : Vals xs us) : ∀ k, Vals (xs.drop k) (us.drop k) := fun k => by
  induction k generalizing xs us with
  | zero => exact h
  | succ k ih =>
    cases h with
    | nil => exact .nil
    | cons h t => exact ih t
theorem vals_ev : ∀ {xs : List V} {us : List Value}, Vals xs us → Vals (evs xs) (evs us)
  | _, _, .nil => .nil
  | _, _, .cons h .nil => .cons h .nil
  | _, _, .cons h (.cons _ t) => .cons h (vals_ev t)
def tEvL (K : PySem.W.Frag) (k : Nat) (te : TE) : TE := fun σ H Q => te σ H fun x H1 => ∃ a xs, x = .ref a ∧ SqL K H1 a xs ∧ ∀ p, H1 p = none → Q (.ref p) (upd H1 p (.lst (evs (xs.drop k))))
theorem pe_evL {X : Cx} {e : Expr} {te : TE} {j k1 k2 : Nat} {p1 p2 p3 pos : Pos} (he : PE X e te) : PE X (.Subscript e (.Slice (some (.Constant (.int j) k1 p1)) none (some (.Constant (.int 2) k2 p2)) p3) pos) (tEvL X.K j te) := by
  refine ⟨fun pins s σ H Q I h => ?_⟩
  refine Subscript_ (thn (he.run pins s σ H _ I h) fun v s1 ⟨x, H1, I1, r1, q1⟩ => ?_)
  obtain ⟨a, xs, ex, hx, q⟩ := q1
  subst ex
  cases r1
  have hlo : PO X (some (.Constant (.int j) k1 p1)) (tPart (tC (.int j))) := po_some pe_int
  have hst : PO X (some (.Constant (.int 2) k2 p2)) (tPart (tC (.int 2))) := po_some pe_int
  refine wpAny_Slice (thn (hlo.run pins s1 σ H1 (fun o H2 => o = some (j : Int) ∧ H2 = H1) I1 ⟨j, rfl, rfl, rfl⟩) fun vl s2 ⟨l, H2, I2, pl, el, e2⟩ => ?_)
  subst el e2
  refine thn (po_none.run pins s2 σ H2 (fun o H3 => o = none ∧ H3 = H2) I2 ⟨rfl, rfl⟩) fun vu s3 ⟨u, H3, I3, pu, eu, e3⟩ => ?_
  subst eu e3
  refine thn (hst.run pins s3 σ H3 (fun o H4 => o = some 2 ∧ H4 = H3) I3 ⟨2, rfl, rfl, rfl⟩) fun vs s4 ⟨o, H4, I4, ps, eo, e4⟩ => ?_
  subst eo e4
  have I5 : Inv X pins σ H4 { s4 with heap := s4.heap.push { cls := .type "slice", data := .fields #[vl, vu, vs] } } := I4.kept (t' := s4.toks) fun b ob q => Heap.get?_push_of_some _ q
  obtain ⟨its, r, ht, hz⟩ := I5.list hx
  have hlen := r.length
  show wpAny (model X.prog X.w) X.A (subscriptTail e (.Slice (some (.Constant (.int j) k1 p1)) none (some (.Constant (.int 2) k2 p2)) p3) (.ref a) (.ref s4.heap.objs.size)) (EP X pins σ Q) X.xe { s4 with heap := s4.heap.push { cls := .type "slice", data := .fields #[vl, vu, vs] } }
  refine tail_any (ops := [.ref a, .ref s4.heap.objs.size]) ht.isList.typeIs (PySem.slot_list_getitem.lookup) ?_ (by with_unfolding_all rfl)
  refine wpAny_getItem_list_slice ht.isList (Heap.IsSliceOf.new _ vl vu vs) pl pu ps (by decide) ?_ (by rw [List.size_toArray]; omega)
  rw [pick_ev]
  refine ⟨.ref _, _, I5.laid (t' := s4.toks) (o := .lst (evs (xs.drop j))) (fun b ob q => Heap.get?_push_of_some _ q) (Nat.le_refl _) ?_, rfl, q _ (I5.hok.fresh (Nat.le_refl _))⟩
  exact ⟨Nat.le_trans (evs_length _) (by rw [List.length_drop]; omega), _, 0, vals_ev (vals_drop r j), Heap.get?_push_size _ rfl⟩
theorem repL_drop {K : PySem.W.Frag} {H : Hp} {S : Sto} {xs : List V} {ds : List D} (h : RepL K H S xs ds) : ∀ k, RepL K H S (xs.drop k) (ds.drop k) := fun k => by
  induction k generalizing xs ds with
  | zero => exact h
  | succ k ih =>
    cases h with
    | nil => exact .nil
    | cons h t => exact ih t
theorem repL_ev {K : PySem.W.Frag} {H : Hp} {S : Sto} : ∀ {xs : List V} {ds : List D}, RepL K H S xs ds → RepL K H S (evs xs) (evs ds)
  | _, _, .nil => .nil
  | _, _, .cons h .nil => .cons h .nil
  | _, _, .cons h (.cons _ t) => .cons h (repL_ev t)
section
variable {c : Ctx} {ρ : Rho} {S : Sto} {F : D → Sto → Prop}
theorem ve_evL {te : TE} {j : Nat} (h : VE c te ρ S fun x S1 => ∃ ds, IsL S1 x ds ∧ F (.lst (evs (ds.drop j))) S1) : VE c (tEvL c.K j te) ρ S F := fun T σ H I Q k =>
  h T σ H I _ fun vx x S1 T1 H1 m1 c1 r1 ⟨ds, hx, q⟩ => by
    obtain ⟨a, xs, rfl, s, r⟩ := hx.rd c1 r1
    exact ⟨a, xs, rfl, s, fun p hp => k _ _ S1 T1 _ (m1.trans (mv_new hp)) (c1.new hp) (.lst (c1.free hp) upd_same ((repL_ev (repL_drop r j)).mv (mv_new hp))) q⟩
end
end VS
namespace VS
open PySem L2 C8 PySem.Spec PyProof.Rows
/-! ### a list of instances == another one, by their own __eq__ -/
section
open AutoSeq1 (wpAny_loadPart')
open MeetsSeq MeetsSeq2 MeetsSeq3
variable {prog : Program} {w : World} {A : Around}
/-- the two lists are read anew: N items each -/
def LstN (l b : Addr) (N : Nat) (s : Shared) (P : Array Value → Array Value → Prop) : Prop := ∃ (items items2 : Array Value) (n n2 : Nat), s.heap.get? l = some { cls := .type "list", data := .seq items n } ∧ s.heap.get? b = some { cls := .type "list", data := .seq items2 n2 } ∧ items.size = N ∧ items2.size = N ∧ P items items2
theorem eqs_loop {R : Result → Shared → Prop} {l b : Addr} {N : Nat} (I : Nat → Shared → Prop) (J : Shared → Prop)
    (hl : ∀ i s, I i s → LstN l b N s fun its its2 => ∀ (h1 : i < its.size) (h2 : i < its2.size), wpAny (model prog w) A.in1 (eqBool its[i] its2[i]) (fun r s' => (r = true → I (i + 1) s') ∧ (r = false → J s')) (fun e s' => R (.error e) s') s)
    (stop : ∀ s, J s → LstN l b N s (fun _ _ => True) ∧ R (.ok (.ret (.bool false))) s)
    (fin : ∀ s, I N s → R (.ok (.ret (.bool true))) s) (k : Nat) : ∀ i : Nat, i + k = N → ∀ s, I i s →
      wpAny (model prog w) A.in1 (Builtin.«list.__eq__.loop» ⟨[.ref l, .ref b, rawInt i, rawInt 2], []⟩) (GQ.FinOf prog w A R) (fun e s' => R (.error e) s') s := by
  induction k with
  | zero =>
    intro i hk s h
    obtain ⟨items, items2, n, n2, hl1, hb1, hs1, hs2, _⟩ := hl _ _ h
    have hi' : i = N := by omega
    have hR : R (.ok (.ret (.bool true))) s := fin s (hi' ▸ h)
    obtain ⟨hp, g, d, tk, os⟩ := s
    wp_walk using wpAny_loadPart' hl1, wpAny_loadPart' hb1
    have hi1 : items[((i : Nat) : Int).toNat]? = none := by simp; omega
    have hi2 : items2[((i : Nat) : Int).toNat]? = none := by simp; omega
    rw [hi1, hi2]
    wp_walk using wpAny_loadPart' hl1, wpAny_loadPart' hb1
    show R (.ok (.ret (.bool (items.size == items2.size)))) _
    rw [hs1, hs2]
    simpa using hR
  | succ k ih =>
    intro i hk s h
    obtain ⟨items, items2, n, n2, hl1, hb1, hs1, hs2, turn⟩ := hl _ _ h
    have hlt : i < items.size := by omega
    have hlt2 : i < items2.size := by omega
    have ht := turn hlt hlt2
    obtain ⟨hp, g, d, tk, os⟩ := s
    wp_walk using wpAny_loadPart' hl1, wpAny_loadPart' hb1
    have hi1 : items[((i : Nat) : Int).toNat]? = some items[i] := by simp [hlt]
    have hi2 : items2[((i : Nat) : Int).toNat]? = some items2[i] := by simp [hlt2]
    have hc : ((i : Int) + 1) = ((i + 1 : Nat) : Int) := by omega
    rw [hi1, hi2]
    refine wpAny_bind (wpAny_mono ht (fun r s2 h2 => ?_) fun _ _ x => x)
    cases r with
    | true =>
      have hrec := ih (i + 1) (by omega) s2 (h2.1 rfl)
      obtain ⟨hp2, g2, d2, tk2, os2⟩ := s2
      wp_walk
      rw [hc]
      exact ⟨plainId_quiet plain_eq_loop _, codeAny_builtin entry_eq_loop (by
        rw [Around.under_plainId plain_eq_loop _]
        exact hrec)⟩
    | false =>
      obtain ⟨⟨it1, it2, m1, m2, hl2, hb2, z1, z2, _⟩, hR⟩ := stop _ (h2.2 rfl)
      have k1 : i < it1.size := by omega
      have k2 : i < it2.size := by omega
      obtain ⟨hp2, g2, d2, tk2, os2⟩ := s2
      wp_walk using wpAny_loadPart' hl2, wpAny_loadPart' hb2
      have e1 : it1[((i : Nat) : Int).toNat]? = some it1[i] := by simp [k1]
      have e2 : it2[((i : Nat) : Int).toNat]? = some it2[i] := by simp [k2]
      rw [e1, e2]
      wp_walk
      simpa using hR
theorem rc_lists {E : Value → Shared → Prop} {s : Shared} {l b : Addr} {N : Nat} {Q : Value → Shared → Prop} (hu : A.units < cLine) (I : Nat → Shared → Prop) (J : Shared → Prop)
    (hl : ∀ i s, I i s → LstN l b N s fun its its2 => ∀ (h1 : i < its.size) (h2 : i < its2.size), wpAny (model prog w) A.in1 (eqBool its[i] its2[i]) (fun r s' => (r = true → I (i + 1) s') ∧ (r = false → J s')) E s)
    (stop : ∀ s, J s → LstN l b N s (fun _ _ => True) ∧ Q (.bool false) s)
    (fin : ∀ s, I N s → Q (.bool true) s) (h : I 0 s) : wpAny (model prog w) A (richCompare .Eq (.ref l) (.ref b)) Q E s := by
  obtain ⟨items, items2, n, n2, hl1, hb1, hs1, hs2, _⟩ := hl _ _ h
  refine wpAny_richCompare_same_room (op := .Eq) ⟨_, hl1, rfl⟩ ⟨_, hb1, rfl⟩ F.slot_list_eq (GQ.call_here F.slot_list_eq ⟨_, hl1, rfl⟩ F.entry_list_eq (F.args_list_eq_2 _ _) ?_) hu
  have hrec := eqs_loop (prog := prog) (w := w) (A := A) (R := wants (fun v s' => v ≠ .notImplemented ∧ Q v s') E) (l := l) (b := b) (N := N) I J hl (fun s' q => ⟨(stop s' q).1, (fun x => nomatch x), (stop s' q).2⟩) (fun s' q => ⟨(fun x => nomatch x), fin s' q⟩) N 0 (by omega) s h
  obtain ⟨hp, g, d, tk, os⟩ := s
  have f3 := AutoSeq1.sub_list_list
  have hne : ¬ (items.size != items2.size) = true := by simp [hs1, hs2]
  wp_walk using wpAny_loadPart' hl1, wpAny_loadPart' hb1
  exact ⟨plainId_quiet plain_eq_loop _, codeAny_builtin entry_eq_loop (by
    rw [Around.under_plainId plain_eq_loop _]
    exact hrec)⟩
theorem rc_lens {E : Value → Shared → Prop} {s : Shared} {l b : Addr} {items items2 : Array Value} {n n2 : Nat} {Q : Value → Shared → Prop} (hu : A.units < cLine)
    (hl1 : s.heap.get? l = some { cls := .type "list", data := .seq items n }) (hb1 : s.heap.get? b = some { cls := .type "list", data := .seq items2 n2 }) (ne : items.size ≠ items2.size) (h : Q (.bool false) s) : wpAny (model prog w) A (richCompare .Eq (.ref l) (.ref b)) Q E s :=
  richCompare_meets_room (op := .Eq) ⟨_, hl1, rfl⟩ ⟨_, hb1, rfl⟩ F.slot_list_eq F.entry_list_eq (F.args_list_eq_2 _ _) (AutoSeq1.list___eq___list_list_0 l items n b items2 n2 (by simpa using ne))
    ⟨hl1, hb1, show Value.bool false ≠ Value.notImplemented ∧ Q (.bool false) s from ⟨(fun x => nomatch x), h⟩⟩ hu
end
section
variable {X : Cx} {k : Nat} {f C : Addr} {fd : FuncData} {ps : List Str} {sp : Sp}
def LLn (l b : Addr) (N : Nat) (H : Hp) : Prop := ∃ xs ys, H l = some (.lst xs) ∧ H b = some (.lst ys) ∧ xs.length = N ∧ ys.length = N
def goV (K : PySem.W.Frag) (C : Addr) (sp : Sp) (l b : Addr) (N : Nat) (Q : VK) : Nat → Nat → Hp → Prop
  | 0, _, H => LLn l b N H ∧ Q (.bl true) H
  | k + 1, i, H => ∃ xs ys x y, H l = some (.lst xs) ∧ H b = some (.lst ys) ∧ xs.length = N ∧ ys.length = N ∧ xs[i]? = some x ∧ ys[i]? = some y ∧
      stO K C sp x y H fun r H1 => (r = true → goV K C sp l b N Q k (i + 1) H1) ∧ (r = false → LLn l b N H1 ∧ Q (.bl false) H1)
theorem goV.ll {K : PySem.W.Frag} {l b : Addr} {N : Nat} {Q : VK} : ∀ {k i : Nat} {H : Hp}, goV K C sp l b N Q k i H → LLn l b N H
  | 0, _, _, h => h.1
  | _ + 1, _, _, ⟨xs, ys, _, _, h1, h2, h3, h4, _⟩ => ⟨xs, ys, h1, h2, h3, h4⟩
def rEqOL (K : PySem.W.Frag) (C : Addr) (sp : Sp) : R2 := fun x y H Q => ∃ l b xs ys, x = .ref l ∧ y = .ref b ∧ H l = some (.lst xs) ∧ H b = some (.lst ys) ∧
  ((xs.length ≠ ys.length ∧ Q (.bl false) H) ∨ (xs.length = ys.length ∧ goV K C sp l b xs.length Q xs.length 0 H))
theorem ll_at {pins : List (Addr × Obj)} {σ : L2.St} {H : Hp} {s : Shared} {l b : Addr} {N : Nat} (I : Inv X pins σ H s) (h : LLn l b N H) : LstN l b N s (fun _ _ => True) := by
  obtain ⟨xs, ys, h1, h2, h3, h4⟩ := h
  obtain ⟨z, its, n, r, e⟩ := I.hok l _ h1
  obtain ⟨z2, its2, n2, r2, e2⟩ := I.hok b _ h2
  exact ⟨its.toArray, its2.toArray, n, n2, e, e2, by rw [List.size_toArray, ← r.length, h3], by rw [List.size_toArray, ← r2.length, h4], trivial⟩
theorem op_eqOL (F : FnG X.prog X.w X.K X.mg X.base (L2.CX X.prog X.w) k f fd ps sp) (hgd : X.A.guards = some []) (hr : Room (k + 1) X.A) (hs : PySem.W.findIn X.K (.ref C) "__eq__" = some (some (.ref f))) (hf : PySem.W.isFn X.K (.ref f) = true) (hb : Binds X.K fd ps []) :
    OpR X (compareOp .Eq) (rEqOL X.K C sp) := by
  intro pins s σ H x y v u Q I rx ry h
  obtain ⟨l, b, xs, ys, rfl, rfl, hl, hbb, h⟩ := h
  cases rx
  cases ry
  show wpAny _ _ (richCompare .Eq (.ref l) (.ref b)) _ _ _
  rcases h with ⟨ne, q⟩ | ⟨eq, h⟩
  · obtain ⟨z, its, n, r, e⟩ := I.hok l _ hl
    obtain ⟨z2, its2, n2, r2, e2⟩ := I.hok b _ hbb
    exact rc_lens hr.units0 e e2 (by rw [List.size_toArray, List.size_toArray, ← r.length, ← r2.length]; exact ne) ⟨.bl false, H, I, rfl, q⟩
  · refine rc_lists (N := xs.length) hr.units0 (fun i s' => i ≤ xs.length ∧ ∃ H', Inv X pins σ H' s' ∧ goV X.K C sp l b xs.length Q (xs.length - i) i H') (fun s' => ∃ H', Inv X pins σ H' s' ∧ LLn l b xs.length H' ∧ Q (.bl false) H') ?_ ?_ ?_ ⟨Nat.zero_le _, H, I, h⟩
    · rintro i s' ⟨le, H', I', h'⟩
      rcases Nat.lt_or_ge i xs.length with lt | ge
      · obtain ⟨j, hj⟩ : ∃ j, xs.length - i = j + 1 := ⟨xs.length - i - 1, by omega⟩
        rw [hj] at h'
        obtain ⟨xs1, ys1, x1, y1, h1, h2, h3, h4, hx, hy, st⟩ := h'
        obtain ⟨z, its, n, r, e⟩ := I'.hok l _ h1
        obtain ⟨z2, its2, n2, r2, e2⟩ := I'.hok b _ h2
        refine ⟨its.toArray, its2.toArray, n, n2, e, e2, by rw [List.size_toArray, ← r.length, h3], by rw [List.size_toArray, ← r2.length, h4], fun k1 k2 => ?_⟩
        have l1 : i < its.length := by simpa using k1
        have l2 : i < its2.length := by simpa using k2
        have rx : L2.RelV x1 its.toArray[i] := by
          obtain ⟨u', e, z⟩ := r.get hx
          rw [List.getElem?_eq_getElem l1] at e
          cases e
          exact z
        have ry : L2.RelV y1 its2.toArray[i] := by
          obtain ⟨u', e, z⟩ := r2.get hy
          rw [List.getElem?_eq_getElem l2] at e
          cases e
          exact z
        refine eq_item F (A := X.A.in1) (by simpa using hgd) hr.in1 (by simp) hs hf hb I' rx ry st fun b' H2 s2 I2 g2 => ⟨fun e => ⟨by omega, H2, I2, ?_⟩, fun e => ⟨H2, I2, g2.2 e⟩⟩
        have := g2.1 e
        rw [show xs.length - (i + 1) = j by omega]
        exact this
      · obtain ⟨its, its2, n, n2, e1, e2, z1, z2, _⟩ := ll_at I' h'.ll
        exact ⟨its, its2, n, n2, e1, e2, z1, z2, fun k1 _ => by omega⟩
    · rintro s' ⟨H', I', ll, q⟩
      exact ⟨ll_at I' ll, .bl false, H', I', rfl, q⟩
    · rintro s' ⟨_, H', I', h'⟩
      rw [Nat.sub_self] at h'
      exact ⟨.bl true, H', I', rfl, h'.2⟩
end
def goD2 (C : Addr) (p : Pt) (F : D → Sto → Prop) (S : Sto) : List D → List D → Prop
  | [], [] => F (.bl true) S
  | x :: xs, y :: ys => (∃ fs gs, x = .ins C fs ∧ y = .ins C gs) ∧ (Sim x y → goD2 C p F S xs ys) ∧ p [x, y] S (fun v S' => ∃ b, v = .bl b ∧ S' = S ∧ (b = true → goD2 C p F S xs ys) ∧ (b = false → F (.bl false) S)) noY
  | _, _ => False
section
variable {c : Ctx} {S : Sto} {F : D → Sto → Prop}
theorem goD2_ok {K : PySem.W.Frag} {C l b : Addr} {p : Pt} {dx dy : D} {xd yd : List D} {Q : VK} {N : Nat} (ia : IsA S dx xd) (ib : IsA S dy yd) (el : xd.length = N) (er : yd.length = N) :
    ∀ (k i : Nat) (T : Sto) (H : Hp), i + k = N → Cells K H S T → Rep K H T (.ref l) dx → Rep K H T (.ref b) dy → goD2 C p F S (xd.drop i) (yd.drop i) →
    (∀ v d S' T' H', Mv T H T' H' → Cells K H' S' T' → Rep K H' T' v d → F d S' → Q v H') → goV K C (spOf K p) l b N Q k i H := by
  have rd : ∀ (T : Sto) (H : Hp), Cells K H S T → Rep K H T (.ref l) dx → Rep K H T (.ref b) dy → ∃ xs ys, H l = some (.lst xs) ∧ H b = some (.lst ys) ∧ RepL K H T xs xd ∧ RepL K H T ys yd := fun T H cl r1 r2 => by
    obtain ⟨a, xs, e, h1, q1⟩ := ia.rd cl r1
    obtain ⟨a2, ys, e2, h2, q2⟩ := ib.rd cl r2
    cases e
    cases e2
    exact ⟨xs, ys, h1, h2, q1, q2⟩
  have ll : ∀ (T : Sto) (H : Hp), Cells K H S T → Rep K H T (.ref l) dx → Rep K H T (.ref b) dy → LLn l b N H := fun T H cl r1 r2 => by
    obtain ⟨xs, ys, h1, h2, q1, q2⟩ := rd T H cl r1 r2
    exact ⟨xs, ys, h1, h2, q1.length.trans el, q2.length.trans er⟩
  intro k
  induction k with
  | zero =>
    intro i T H hi cl r1 r2 g q
    refine ⟨ll T H cl r1 r2, ?_⟩
    rw [List.drop_of_length_le (by omega), List.drop_of_length_le (by omega)] at g
    exact q _ _ S T H Mv.refl cl (.bl true) g
  | succ k ih =>
    intro i T H hi cl r1 r2 g q
    obtain ⟨xs, ys, h1, h2, q1, q2⟩ := rd T H cl r1 r2
    have lx : i < xd.length := by omega
    have ly : i < yd.length := by omega
    rw [List.drop_eq_getElem_cons lx, List.drop_eq_getElem_cons ly] at g
    obtain ⟨⟨fs, gs, ex, ey⟩, same, hp⟩ := g
    obtain ⟨x, hx, rx⟩ := q1.get (List.getElem?_eq_getElem lx)
    obtain ⟨y, hy, ry⟩ := q2.get (List.getElem?_eq_getElem ly)
    obtain ⟨a1, d1, f1, rfl, k1⟩ : ∃ a d f, x = .ref a ∧ H a = some (.ins C d f) := by
      rw [ex] at rx
      cases rx with | ins s h r => exact ⟨_, _, _, rfl, h⟩
    obtain ⟨a2, d2, f2, rfl, k2⟩ : ∃ a d f, y = .ref a ∧ H a = some (.ins C d f) := by
      rw [ey] at ry
      cases ry with | ins s h r => exact ⟨_, _, _, rfl, h⟩
    refine ⟨xs, ys, _, _, h1, h2, q1.length.trans el, q2.length.trans er, hx, hy, a2, d2, f2, rfl, k2, .inr ⟨a1, d1, f1, rfl, k1, fun e sq => ?_, fun _ => ⟨[_, _], S, T, _, noY, .cons rx (.cons ry .nil), cl, hp, ?_, fun _ _ _ _ _ _ _ _ _ z => z.elim⟩⟩⟩
    · refine ⟨fun _ => ih (i + 1) T H (by omega) cl r1 r2 (same ?_) q, fun z => by cases z⟩
      subst e
      exact ⟨K, H, T, _, sq, rx, ry⟩
    · rintro v d S' T' H' m cl' r' ⟨b', rfl, rfl, g1, g2⟩
      cases r'
      exact ⟨b', rfl, fun e => ih (i + 1) T' H' (by omega) cl' (r1.mv m) (r2.mv m) (g1 e) fun v d S2 T2 H2 m2 => q v d S2 T2 H2 (m.trans m2), fun e => ⟨ll T' H' cl' (r1.mv m) (r2.mv m), q _ _ _ T' H' m cl' (.bl false) (g2 e)⟩⟩
theorem rv_eqOL {C : Addr} {p : Pt} {x y : D} {xd yd : List D} (ia : IsA S x xd) (ib : IsA S y yd) (g : (xd.length ≠ yd.length ∧ F (.bl false) S) ∨ (xd.length = yd.length ∧ goD2 C p F S xd yd)) : RV c (rEqOL c.K C (spOf c.K p)) x y S F := fun T u w H cl r1 r2 Q k => by
  obtain ⟨a, xs, rfl, h1, q1⟩ := ia.rd cl r1
  obtain ⟨b, ys, rfl, h2, q2⟩ := ib.rd cl r2
  refine ⟨a, b, xs, ys, rfl, rfl, h1, h2, ?_⟩
  rcases g with ⟨ne, q⟩ | ⟨eq, g⟩
  · exact .inl ⟨by rw [q1.length, q2.length]; exact ne, k _ _ S T H Mv.refl cl (.bl false) q⟩
  · refine .inr ⟨by rw [q1.length, q2.length]; exact eq, ?_⟩
    rw [q1.length]
    exact goD2_ok ia ib rfl eq.symm xd.length 0 T H (by omega) cl r1 r2 g k
end
end VS
open PySem L2 C8 PySem.Spec PyProof.Rows VS
local macro_rules | `(tactic| walk_at "g1") => `(tactic| with_reducible first
  | refine vx_seq ?_ | refine vx_next ?_ | refine vx_asg ?_ | refine vx_drop ?_ | refine vx_ret ?_ | refine vx_retN ?_ | refine vx_if ?_ | refine vx_break ?_ | refine vx_cont ?_ | refine vx_fld ?_
  | refine ve_int ?_ | refine ve_bl ?_ | refine ve_str ?_ | refine ve_non ?_ | refine ve_ty ?_ | refine ve_op ?_ | refine ve_un ?_ | refine ve_cb ?_ | refine ve_tup ?_
  | refine ve_if ?_ | refine ve_andV ?_ | refine ve_orV ?_ | refine ve_notV ?_ | refine ve_chain ?_ | refine ve_m1 ?_ | refine ve_m0 ?_ | refine ve_bm ?_ | refine ve_bm0 ?_ | refine ve_sl ?_ | refine ve_fld ?_
  | refine va_nil ?_ | refine va_cons ?_ | refine vo_none ?_ | refine vo_some ?_
  | refine vt_test ?_ | refine vt_B ?_ | refine vt_and ?_ | refine vt_or ?_ | refine vt_not ?_ | refine vt_yes ?_
  | refine vg_name ?_ | refine vg_subL ?_ | refine ex_ref ?_ | refine vgw_name (by simp) ?_ | refine vgs_nil ?_ | refine vgs_cons ?_ | refine vgws_nil ?_ | refine vgws_cons ?_
  | refine rv_II ?_ | refine rv_IB ?_ | refine rv_isNo ?_ | refine rv_notNo ?_ | refine rv_inS ?_ | refine rv_notInS ?_ | refine rv_ltS ?_ | refine rv_leS ?_
  | refine rc_max2 ?_ | refine rc_min2 ?_ | refine rc_int ?_ | refine rc_intB ?_ | refine rc_ord ?_ | refine rc_abs ?_ | refine ru_I ?_
  | refine ex_bl ?_ | refine ex_str ?_ | refine ex_int ?_)
local macro_rules | `(tactic| walk_at "g2") => `(tactic| first
  | ((with_reducible apply ve_var); · rfl)
  | ((with_reducible refine brT ?_ ?_); · rfl)
  | ((with_reducible refine brF ?_ ?_); · rfl)
  | ((with_reducible apply rv_eq); · rfl)
  | ((with_reducible apply rv_ne); · rfl)
  | ((with_reducible refine rc_lenS ?_ ?_); (· first | assumption | (have q := szl; omega)))
  | ((with_reducible refine rv_IC ?_ ?_); · (first | decide | (show (0 : Int) < _; omega) | (refine cpow ?_ ?_ ?_ <;> first | decide | omega) | (refine cmulW ?_ ?_ <;> first | omega | decide) | (refine cdivW ?_ ?_ <;> first | omega | decide)))
  | ((with_reducible apply rv_ixL); (· first | exact .c (by assumption) | exact .c put_same | exact .v | exact .r); (· rfl))
  | ((with_reducible apply rc_strI64); (· omega))
  | ((with_reducible refine rs_str ?_ ?_); (· first | assumption | (have q := szl; omega)))
  | ((with_reducible refine rv_addS ?_ ?_); (· first | assumption | (have q := szl; omega)))
  | ((with_reducible apply rc_isi); (· first | assumption | constructor | exact .cl (by assumption)); (· first | assumption | rfl))
  | (with_reducible refine ve_f (XOk.none (E := noE)) ?_)
  | (with_reducible refine vg_tup rfl ?_) | (with_reducible refine vgw_tup rfl ?_))
local macro_rules | `(tactic| walk_at "go") => `(tactic| repeat (first | walk_at "g1" | walk_at "g2"))
local macro_rules | `(tactic| walk_at "g7") => `(tactic| first
  | ((with_reducible refine ve_lst ?_); refine va_cons ?_)
  | with_reducible refine ve_lst ?_)
local macro_rules | `(tactic| walk_at "g3") => `(tactic| first
  | with_reducible refine ve_disp ?_
  | with_reducible refine ve_dnew ?_
  | with_reducible refine vps_cons ?_
  | with_reducible refine vps_nil ?_
  | with_reducible refine ex_keyS ?_
  | with_reducible refine ex_keyI ?_
  | ((with_reducible refine rc_listS ?_ ?_); (· first | assumption | (have q := szl; omega)))
  | ((with_reducible refine ⟨?_, ?_, ?_⟩); (· (show _ ≤ 15; simp; done)); (· (show List.Nodup _; simp; done)))
  | ((with_reducible refine ⟨?_, ?_⟩); (· (show _ ≤ sizeLine; have q := szl; simp only [List.length_append, List.length_map, List.length_cons, List.length_nil]; omega))))
local macro_rules | `(tactic| walk_at "g5") => `(tactic| first
  | ((with_reducible apply rv_cat); (· first | exact .v | exact .c put_same | exact .c (by assumption)); (· first | exact .v | exact .c put_same | exact .c (by assumption)); (· (have q := szl; simp only [List.length_append, List.length_map, List.length_cons, List.length_nil]; omega))))
local macro_rules | `(tactic| walk_at "gv") => `(tactic| repeat (first | walk_at "g1" | walk_at "g2" | walk_at "g3" | walk_at "g7" | walk_at "g5"))
local macro_rules | `(tactic| walk_at "ii") => `(tactic| first | exact .v | exact .c put_same | exact .c (by assumption))
local macro_rules | `(tactic| walk_at "g4") => `(tactic| first
  | ((with_reducible apply ex_ins); (· walk_at "ii"); (· rfl))
  | ((with_reducible apply ex_fldI); (· walk_at "ii"); (· assumption); (· assumption); (· rfl))
  | ((with_reducible apply ex_cell); (· first | exact put_same | assumption))
  | ((with_reducible apply ex_self); (· first | exact put_same | assumption); (· assumption); (· assumption); (· decide))
  | with_reducible refine ve_cls ?_
  | with_reducible refine ve_orL ?_
  | with_reducible refine vx_par ?_
  | with_reducible refine ex_two ?_
  | with_reducible refine ve_mt0 (XOk.none (E := noE)) ?_
  | ((with_reducible apply rv_ixT); (· first | rfl | exact atI_zero))
  | with_reducible refine ve_mk0 (XOk.none (E := noE)) ?_
  | with_reducible refine ve_mk0 (XOk.same fun _ _ _ h => h) ?_
  | with_reducible refine ve_f (XOk.same fun _ _ _ h => h) ?_
  | with_reducible refine ve_mt0 (XOk.same fun _ _ _ h => h) ?_
  | with_reducible refine vx_raise ?_
  | with_reducible refine vx_raise2 ?_
  | with_reducible refine ve_xf ?_
  | ((with_reducible apply ex_xf); (· rfl))
  | with_reducible refine vx_tryD fun E' => ?_
  | with_reducible refine vx_tryE fun E' => ?_
  | with_reducible refine rv_eqET ?_
  | with_reducible refine rv_neET ?_
  | ((with_reducible apply rv_eqEL); (· first | exact .v | exact .r | exact .c put_same | exact .c (by assumption)))
  | ((with_reducible apply rv_neEL); (· first | exact .v | exact .r | exact .c put_same | exact .c (by assumption)))
  | with_reducible refine rs_tupG ?_
  | ((with_reducible refine rv_catA ?_ ?_); (· (have q := szl; simp only [List.length_append, List.length_map, List.length_cons, List.length_nil]; omega)))
  | ((with_reducible apply rc_tupleL); (· first | exact .v | exact .r | exact .c put_same | exact .c (by assumption)))
  | ((with_reducible apply rc_lenQ); (· first | exact .t | exact .l .v | exact .l .r | exact .l (.c put_same) | exact .l (.c (by assumption)))))
local macro_rules | `(tactic| walk_at "g8") => `(tactic| first
  | ((with_reducible apply rs_list); (· first | exact .v | exact .r | exact .c put_same | exact .c (by assumption)))
  | ((with_reducible apply rc_list); (· first | exact .t | exact .l .v | exact .l .r | exact .l (.c put_same) | exact .l (.c (by assumption)))))
local macro_rules | `(tactic| walk_at "gr") => `(tactic| repeat (first | walk_at "g1" | walk_at "gp" | walk_at "g2" | walk_at "g4" | walk_at "g3"))
local macro_rules | `(tactic| walk_at "ga") => `(tactic| repeat (first | walk_at "g1" | walk_at "gp" | walk_at "g2" | walk_at "g4" | walk_at "g8" | walk_at "g3" | walk_at "g7" | walk_at "g5"))
local macro_rules | `(tactic| walk_at "gn") => `(tactic| repeat (first | walk_at "g1" | walk_at "gp" | walk_at "g2" | walk_at "g4" | walk_at "g8" | walk_at "g3" | walk_at "g7"))
local macro_rules | `(tactic| walk_at "gl") => `(tactic| repeat (first | walk_at "g1" | walk_at "gp" | walk_at "g2" | walk_at "g4" | walk_at "g8" | walk_at "g3" | walk_at "g5"))
local macro_rules | `(tactic| walk_at "gp") => `(tactic| ((with_reducible apply ve_kd); · assumption))
namespace LW
open PySem L2 C8 PySem.Spec PyProof.Rows VS
def top (i : Nat) : Stmt := PySem.Challenge.pw_boxinbox_k74_whole_heaps_retold.main.body.getD i (.Pass ⟨0, 0, 0, 0⟩)
def inClass (st : Stmt) (j : Nat) : Stmt := match st with
  | .ClassDef (body := b) .. => b.getD j (.Pass ⟨0, 0, 0, 0⟩)
  | _ => .Pass ⟨0, 0, 0, 0⟩
abbrev s_is_whole : Stmt := top 22
abbrev n_is_whole : List Str := ["thing", "low", "high"]
abbrev a_is_whole : List Str := ["thing", "low", "high"]
theorem sc_is_whole : FnScope n_is_whole a_is_whole (defScope s_is_whole) := ⟨rfl, rfl, rfl, by decide +kernel, rfl, by decide +kernel, by decide +kernel⟩
abbrev s_is_name : Stmt := top 23
abbrev n_is_name : List Str := ["thing", "sign"]
abbrev a_is_name : List Str := ["thing"]
theorem sc_is_name : FnScope n_is_name a_is_name (defScope s_is_name) := ⟨rfl, rfl, rfl, by decide +kernel, rfl, by decide +kernel, by decide +kernel⟩
abbrev s_number_of : Stmt := top 25
abbrev n_number_of : List Str := ["thing", "sign"]
abbrev a_number_of : List Str := ["thing"]
theorem sc_number_of : FnScope n_number_of a_number_of (defScope s_number_of) := ⟨rfl, rfl, rfl, by decide +kernel, rfl, by decide +kernel, by decide +kernel⟩
abbrev s_words_of : Stmt := top 26
abbrev n_words_of : List Str := ["thing", "found"]
abbrev a_words_of : List Str := ["thing"]
theorem sc_words_of : FnScope n_words_of a_words_of (defScope s_words_of) := ⟨rfl, rfl, rfl, by decide +kernel, rfl, by decide +kernel, by decide +kernel⟩
abbrev s_Sides___init__ : Stmt := inClass (top 29) 0
abbrev n_Sides___init__ : List Str := ["self", "one", "other", "third", "side"]
abbrev a_Sides___init__ : List Str := ["self", "one", "other", "third"]
theorem sc_Sides___init__ : FnScope n_Sides___init__ a_Sides___init__ (defScope s_Sides___init__) := ⟨rfl, rfl, rfl, by decide +kernel, rfl, by decide +kernel, by decide +kernel⟩
abbrev s_Sides_told : Stmt := inClass (top 29) 1
abbrev n_Sides_told : List Str := ["self"]
abbrev a_Sides_told : List Str := ["self"]
theorem sc_Sides_told : FnScope n_Sides_told a_Sides_told (defScope s_Sides_told) := ⟨rfl, rfl, rfl, by decide +kernel, rfl, by decide +kernel, by decide +kernel⟩
abbrev s_are_labels : Stmt := top 34
abbrev n_are_labels : List Str := ["thing", "word"]
abbrev a_are_labels : List Str := ["thing"]
theorem sc_are_labels : FnScope n_are_labels a_are_labels (defScope s_are_labels) := ⟨rfl, rfl, rfl, by decide +kernel, rfl, by decide +kernel, by decide +kernel⟩
abbrev s_Parcel___init__ : Stmt := inClass (top 35) 0
abbrev n_Parcel___init__ : List Str := ["self", "name", "sides", "wall", "weight", "bears", "labels", "number", "word"]
abbrev a_Parcel___init__ : List Str := ["self", "name", "sides", "wall", "weight", "bears", "labels"]
theorem sc_Parcel___init__ : FnScope n_Parcel___init__ a_Parcel___init__ (defScope s_Parcel___init__) := ⟨rfl, rfl, rfl, by decide +kernel, rfl, by decide +kernel, by decide +kernel⟩
abbrev s_Parcel_name : Stmt := inClass (top 35) 1
abbrev n_Parcel_name : List Str := ["self"]
abbrev a_Parcel_name : List Str := ["self"]
theorem sc_Parcel_name : FnScope n_Parcel_name a_Parcel_name (defScope s_Parcel_name) := ⟨rfl, rfl, rfl, by decide +kernel, rfl, by decide +kernel, by decide +kernel⟩
abbrev s_Parcel_sides : Stmt := inClass (top 35) 2
abbrev n_Parcel_sides : List Str := ["self"]
abbrev a_Parcel_sides : List Str := ["self"]
theorem sc_Parcel_sides : FnScope n_Parcel_sides a_Parcel_sides (defScope s_Parcel_sides) := ⟨rfl, rfl, rfl, by decide +kernel, rfl, by decide +kernel, by decide +kernel⟩
abbrev s_Parcel_wall : Stmt := inClass (top 35) 3
abbrev n_Parcel_wall : List Str := ["self"]
abbrev a_Parcel_wall : List Str := ["self"]
theorem sc_Parcel_wall : FnScope n_Parcel_wall a_Parcel_wall (defScope s_Parcel_wall) := ⟨rfl, rfl, rfl, by decide +kernel, rfl, by decide +kernel, by decide +kernel⟩
abbrev s_Parcel_weight : Stmt := inClass (top 35) 4
abbrev n_Parcel_weight : List Str := ["self"]
abbrev a_Parcel_weight : List Str := ["self"]
theorem sc_Parcel_weight : FnScope n_Parcel_weight a_Parcel_weight (defScope s_Parcel_weight) := ⟨rfl, rfl, rfl, by decide +kernel, rfl, by decide +kernel, by decide +kernel⟩
abbrev s_Parcel_bears : Stmt := inClass (top 35) 5
abbrev n_Parcel_bears : List Str := ["self"]
abbrev a_Parcel_bears : List Str := ["self"]
theorem sc_Parcel_bears : FnScope n_Parcel_bears a_Parcel_bears (defScope s_Parcel_bears) := ⟨rfl, rfl, rfl, by decide +kernel, rfl, by decide +kernel, by decide +kernel⟩
abbrev s_Parcel_labels : Stmt := inClass (top 35) 6
abbrev n_Parcel_labels : List Str := ["self"]
abbrev a_Parcel_labels : List Str := ["self"]
theorem sc_Parcel_labels : FnScope n_Parcel_labels a_Parcel_labels (defScope s_Parcel_labels) := ⟨rfl, rfl, rfl, by decide +kernel, rfl, by decide +kernel, by decide +kernel⟩
abbrev s_Heap___init__ : Stmt := inClass (top 38) 0
abbrev n_Heap___init__ : List Str := ["self"]
abbrev a_Heap___init__ : List Str := ["self"]
theorem sc_Heap___init__ : FnScope n_Heap___init__ a_Heap___init__ (defScope s_Heap___init__) := ⟨rfl, rfl, rfl, by decide +kernel, rfl, by decide +kernel, by decide +kernel⟩
abbrev s_Heap_names : Stmt := inClass (top 38) 5
abbrev n_Heap_names : List Str := ["self", "parcel"]
abbrev a_Heap_names : List Str := ["self"]
theorem sc_Heap_names : FnScope n_Heap_names a_Heap_names (defScope s_Heap_names) := ⟨rfl, rfl, rfl, by decide +kernel, rfl, by decide +kernel, by decide +kernel⟩
abbrev s_Heap_put : Stmt := inClass (top 38) 2
abbrev n_Heap_put : List Str := ["self", "parcel", "ahead", "place"]
abbrev a_Heap_put : List Str := ["self", "parcel", "ahead"]
theorem sc_Heap_put : FnScope n_Heap_put a_Heap_put (defScope s_Heap_put) := ⟨rfl, rfl, rfl, by decide +kernel, rfl, by decide +kernel, by decide +kernel⟩
abbrev s_Heap_parcels : Stmt := inClass (top 38) 6
abbrev n_Heap_parcels : List Str := ["self"]
abbrev a_Heap_parcels : List Str := ["self"]
theorem sc_Heap_parcels : FnScope n_Heap_parcels a_Heap_parcels (defScope s_Heap_parcels) := ⟨rfl, rfl, rfl, by decide +kernel, rfl, by decide +kernel, by decide +kernel⟩
abbrev s_is_unit : Stmt := top 43
abbrev n_is_unit : List Str := ["thing"]
abbrev a_is_unit : List Str := ["thing"]
theorem sc_is_unit : FnScope n_is_unit a_is_unit (defScope s_is_unit) := ⟨rfl, rfl, rfl, by decide +kernel, rfl, by decide +kernel, by decide +kernel⟩
abbrev s_are_units : Stmt := top 44
abbrev n_are_units : List Str := ["thing", "words", "unit", "greater", "lesser"]
abbrev a_are_units : List Str := ["thing"]
theorem sc_are_units : FnScope n_are_units a_are_units (defScope s_are_units) := ⟨rfl, rfl, rfl, by decide +kernel, rfl, by decide +kernel, by decide +kernel⟩
abbrev s_Measure___init__ : Stmt := inClass (top 45) 0
abbrev n_Measure___init__ : List Str := ["self", "name", "units"]
abbrev a_Measure___init__ : List Str := ["self", "name", "units"]
theorem sc_Measure___init__ : FnScope n_Measure___init__ a_Measure___init__ (defScope s_Measure___init__) := ⟨rfl, rfl, rfl, by decide +kernel, rfl, by decide +kernel, by decide +kernel⟩
abbrev s_Measure_text : Stmt := inClass (top 45) 6
abbrev n_Measure_text : List Str := ["self", "points", "words", "left", "word", "each", "many"]
abbrev a_Measure_text : List Str := ["self", "points"]
theorem sc_Measure_text : FnScope n_Measure_text a_Measure_text (defScope s_Measure_text) := ⟨rfl, rfl, rfl, by decide +kernel, rfl, by decide +kernel, by decide +kernel⟩
abbrev s_Measure_sum_of : Stmt := inClass (top 45) 8
abbrev n_Measure_sum_of : List Str := ["self", "words", "total", "at", "word", "each", "many"]
abbrev a_Measure_sum_of : List Str := ["self", "words"]
theorem sc_Measure_sum_of : FnScope n_Measure_sum_of a_Measure_sum_of (defScope s_Measure_sum_of) := ⟨rfl, rfl, rfl, by decide +kernel, rfl, by decide +kernel, by decide +kernel⟩
abbrev s_Measure_points : Stmt := inClass (top 45) 7
abbrev n_Measure_points : List Str := ["self", "text", "found"]
abbrev a_Measure_points : List Str := ["self", "text"]
theorem sc_Measure_points : FnScope n_Measure_points a_Measure_points (defScope s_Measure_points) := ⟨rfl, rfl, rfl, by decide +kernel, rfl, by decide +kernel, by decide +kernel⟩
abbrev s_need_measure : Stmt := top 48
abbrev n_need_measure : List Str := ["thing"]
abbrev a_need_measure : List Str := ["thing"]
theorem sc_need_measure : FnScope n_need_measure a_need_measure (defScope s_need_measure) := ⟨rfl, rfl, rfl, by decide +kernel, rfl, by decide +kernel, by decide +kernel⟩
abbrev s_front_words : Stmt := top 49
abbrev n_front_words : List Str := ["parcel", "measure", "sizes", "side"]
abbrev a_front_words : List Str := ["parcel", "measure"]
theorem sc_front_words : FnScope n_front_words a_front_words (defScope s_front_words) := ⟨rfl, rfl, rfl, by decide +kernel, rfl, by decide +kernel, by decide +kernel⟩
abbrev s_parcel_row : Stmt := top 50
abbrev n_parcel_row : List Str := ["parcel", "measure", "words", "label"]
abbrev a_parcel_row : List Str := ["parcel", "measure"]
theorem sc_parcel_row : FnScope n_parcel_row a_parcel_row (defScope s_parcel_row) := ⟨rfl, rfl, rfl, by decide +kernel, rfl, by decide +kernel, by decide +kernel⟩
abbrev s_show_heap : Stmt := top 51
abbrev n_show_heap : List Str := ["heap", "measure", "parcel"]
abbrev a_show_heap : List Str := ["heap", "measure"]
theorem sc_show_heap : FnScope n_show_heap a_show_heap (defScope s_show_heap) := ⟨rfl, rfl, rfl, by decide +kernel, rfl, by decide +kernel, by decide +kernel⟩
abbrev s_parted : Stmt := top 52
abbrev n_parted : List Str := ["words", "marks", "parts", "left", "mark", "at"]
abbrev a_parted : List Str := ["words", "marks"]
theorem sc_parted : FnScope n_parted a_parted (defScope s_parted) := ⟨rfl, rfl, rfl, by decide +kernel, rfl, by decide +kernel, by decide +kernel⟩
abbrev s_size_of : Stmt := top 53
abbrev n_size_of : List Str := ["words", "measure"]
abbrev a_size_of : List Str := ["words", "measure"]
theorem sc_size_of : FnScope n_size_of a_size_of (defScope s_size_of) := ⟨rfl, rfl, rfl, by decide +kernel, rfl, by decide +kernel, by decide +kernel⟩
abbrev s_front_of : Stmt := top 54
abbrev n_front_of : List Str := ["words", "measure", "parts", "sizes", "part"]
abbrev a_front_of : List Str := ["words", "measure"]
theorem sc_front_of : FnScope n_front_of a_front_of (defScope s_front_of) := ⟨rfl, rfl, rfl, by decide +kernel, rfl, by decide +kernel, by decide +kernel⟩
abbrev s_back_of : Stmt := top 55
abbrev n_back_of : List Str := ["words", "weight", "bears", "labels", "word", "label"]
abbrev a_back_of : List Str := ["words"]
theorem sc_back_of : FnScope n_back_of a_back_of (defScope s_back_of) := ⟨rfl, rfl, rfl, by decide +kernel, rfl, by decide +kernel, by decide +kernel⟩
abbrev s_parcel_told : Stmt := top 56
abbrev n_parcel_told : List Str := ["row", "measure", "words", "front", "back"]
abbrev a_parcel_told : List Str := ["row", "measure"]
theorem sc_parcel_told : FnScope n_parcel_told a_parcel_told (defScope s_parcel_told) := ⟨rfl, rfl, rfl, by decide +kernel, rfl, by decide +kernel, by decide +kernel⟩
abbrev s_parcel_of : Stmt := top 57
abbrev n_parcel_of : List Str := ["told", "name", "one", "other", "third", "wall", "weight", "bears", "labels"]
abbrev a_parcel_of : List Str := ["told"]
theorem sc_parcel_of : FnScope n_parcel_of a_parcel_of (defScope s_parcel_of) := ⟨rfl, rfl, rfl, by decide +kernel, rfl, by decide +kernel, by decide +kernel⟩
abbrev s_read_heap : Stmt := top 58
abbrev n_read_heap : List Str := ["text", "measure", "heap", "found", "told", "row"]
abbrev a_read_heap : List Str := ["text", "measure"]
theorem sc_read_heap : FnScope n_read_heap a_read_heap (defScope s_read_heap) := ⟨rfl, rfl, rfl, by decide +kernel, rfl, by decide +kernel, by decide +kernel⟩
abbrev s_heap_retold : Stmt := top 59
abbrev n_heap_retold : List Str := ["text", "one", "other", "heap"]
abbrev a_heap_retold : List Str := ["text", "one", "other"]
theorem sc_heap_retold : FnScope n_heap_retold a_heap_retold (defScope s_heap_retold) := ⟨rfl, rfl, rfl, by decide +kernel, rfl, by decide +kernel, by decide +kernel⟩
abbrev s_is_order : Stmt := top 24
abbrev n_is_order : List Str := ["thing", "number"]
abbrev a_is_order : List Str := ["thing"]
theorem sc_is_order : FnScope n_is_order a_is_order (defScope s_is_order) := ⟨rfl, rfl, rfl, by decide +kernel, rfl, by decide +kernel, by decide +kernel⟩
abbrev s_Sides_turned : Stmt := inClass (top 29) 7
abbrev n_Sides_turned : List Str := ["self", "order", "one", "other", "third", "number"]
abbrev a_Sides_turned : List Str := ["self", "order"]
theorem sc_Sides_turned : FnScope n_Sides_turned a_Sides_turned (defScope s_Sides_turned) := ⟨rfl, rfl, rfl, by decide +kernel, rfl, by decide +kernel, by decide +kernel⟩
abbrev s_Sides_orders_to : Stmt := inClass (top 29) 9
abbrev n_Sides_orders_to : List Str := ["self", "other", "order"]
abbrev a_Sides_orders_to : List Str := ["self", "other"]
theorem sc_Sides_orders_to : FnScope n_Sides_orders_to a_Sides_orders_to (defScope s_Sides_orders_to) := ⟨rfl, rfl, rfl, by decide +kernel, rfl, by decide +kernel, by decide +kernel⟩
abbrev s_Parcel_numbers : Stmt := inClass (top 35) 8
abbrev n_Parcel_numbers : List Str := ["self"]
abbrev a_Parcel_numbers : List Str := ["self"]
theorem sc_Parcel_numbers : FnScope n_Parcel_numbers a_Parcel_numbers (defScope s_Parcel_numbers) := ⟨rfl, rfl, rfl, by decide +kernel, rfl, by decide +kernel, by decide +kernel⟩
abbrev s_Parcel_kind : Stmt := inClass (top 35) 12
abbrev n_Parcel_kind : List Str := ["self"]
abbrev a_Parcel_kind : List Str := ["self"]
theorem sc_Parcel_kind : FnScope n_Parcel_kind a_Parcel_kind (defScope s_Parcel_kind) := ⟨rfl, rfl, rfl, by decide +kernel, rfl, by decide +kernel, by decide +kernel⟩
abbrev s_Parcel_lies_like : Stmt := inClass (top 35) 9
abbrev n_Parcel_lies_like : List Str := ["self", "other", "orders", "order"]
abbrev a_Parcel_lies_like : List Str := ["self", "other"]
theorem sc_Parcel_lies_like : FnScope n_Parcel_lies_like a_Parcel_lies_like (defScope s_Parcel_lies_like) := ⟨rfl, rfl, rfl, by decide +kernel, rfl, by decide +kernel, by decide +kernel⟩
abbrev s_Parcel___eq__ : Stmt := inClass (top 35) 10
abbrev n_Parcel___eq__ : List Str := ["self", "other"]
abbrev a_Parcel___eq__ : List Str := ["self", "other"]
theorem sc_Parcel___eq__ : FnScope n_Parcel___eq__ a_Parcel___eq__ (defScope s_Parcel___eq__) := ⟨rfl, rfl, rfl, by decide +kernel, rfl, by decide +kernel, by decide +kernel⟩
abbrev s_Heap___len__ : Stmt := inClass (top 38) 7
abbrev n_Heap___len__ : List Str := ["self"]
abbrev a_Heap___len__ : List Str := ["self"]
theorem sc_Heap___len__ : FnScope n_Heap___len__ a_Heap___len__ (defScope s_Heap___len__) := ⟨rfl, rfl, rfl, by decide +kernel, rfl, by decide +kernel, by decide +kernel⟩
abbrev s_Heap___eq__ : Stmt := inClass (top 38) 8
abbrev n_Heap___eq__ : List Str := ["self", "other"]
abbrev a_Heap___eq__ : List Str := ["self", "other"]
theorem sc_Heap___eq__ : FnScope n_Heap___eq__ a_Heap___eq__ (defScope s_Heap___eq__) := ⟨rfl, rfl, rfl, by decide +kernel, rfl, by decide +kernel, by decide +kernel⟩
abbrev s__law_cell : Stmt := top 61
abbrev n__law_cell : List Str := ["_law_script", "_law_k"]
abbrev a__law_cell : List Str := ["_law_script", "_law_k"]
theorem sc__law_cell : FnScope n__law_cell a__law_cell (defScope s__law_cell) := ⟨rfl, rfl, rfl, by decide +kernel, rfl, by decide +kernel, by decide +kernel⟩
abbrev s__law_purse : Stmt := top 62
abbrev n__law_purse : List Str := ["_law_cell_here"]
abbrev a__law_purse : List Str := ["_law_cell_here"]
theorem sc__law_purse : FnScope n__law_purse a__law_purse (defScope s__law_purse) := ⟨rfl, rfl, rfl, by decide +kernel, rfl, by decide +kernel, by decide +kernel⟩
abbrev s__law_take : Stmt := top 63
abbrev n__law_take : List Str := ["_law_purse_here", "_law_many", "_law_digit", "_law_one", "_law_other"]
abbrev a__law_take : List Str := ["_law_purse_here", "_law_many"]
theorem sc__law_take : FnScope n__law_take a__law_take (defScope s__law_take) := ⟨rfl, rfl, rfl, by decide +kernel, rfl, by decide +kernel, by decide +kernel⟩
abbrev s__law_names : Stmt := top 64
abbrev n__law_names : List Str := ["_law_purse_here", "_law_many", "_law_letters", "_law_way", "_law_first", "_law_stem", "_law_words", "_law_at", "_law_k"]
abbrev a__law_names : List Str := ["_law_purse_here", "_law_many"]
theorem sc__law_names : FnScope n__law_names a__law_names (defScope s__law_names) := ⟨rfl, rfl, rfl, by decide +kernel, rfl, by decide +kernel, by decide +kernel⟩
abbrev s__law_three : Stmt := top 65
abbrev n__law_three : List Str := ["_law_purse_here", "_law_most", "_law_great", "_law_found", "_law_way", "_law_k"]
abbrev a__law_three : List Str := ["_law_purse_here", "_law_most"]
theorem sc__law_three : FnScope n__law_three a__law_three (defScope s__law_three) := ⟨rfl, rfl, rfl, by decide +kernel, rfl, by decide +kernel, by decide +kernel⟩
abbrev s__law_units : Stmt := top 66
abbrev n__law_units : List Str := ["_law_purse_here", "_law_points", "_law_k", "_law_more", "_law_letters", "_law_first", "_law_stem", "_law_way", "_law_at", "_law_cut", "_law_words", "_law_many", "_law_found", "_law_kept", "_law_each", "_law_word"]
abbrev a__law_units : List Str := ["_law_purse_here"]
theorem sc__law_units : FnScope n__law_units a__law_units (defScope s__law_units) := ⟨rfl, rfl, rfl, by decide +kernel, rfl, by decide +kernel, by decide +kernel⟩
abbrev s__law_size : Stmt := top 67
abbrev n__law_size : List Str := ["_law_units_here", "_law_points", "_law_words", "_law_word", "_law_each"]
abbrev a__law_size : List Str := ["_law_units_here", "_law_points"]
theorem sc__law_size : FnScope n__law_size a__law_size (defScope s__law_size) := ⟨rfl, rfl, rfl, by decide +kernel, rfl, by decide +kernel, by decide +kernel⟩
abbrev s__law_loose : Stmt := top 68
abbrev n__law_loose : List Str := ["_law_purse_here", "_law_units_here", "_law_size_here", "_law_short", "_law_words", "_law_word", "_law_each", "_law_times"]
abbrev a__law_loose : List Str := ["_law_purse_here", "_law_units_here", "_law_size_here", "_law_short"]
theorem sc__law_loose : FnScope n__law_loose a__law_loose (defScope s__law_loose) := ⟨rfl, rfl, rfl, by decide +kernel, rfl, by decide +kernel, by decide +kernel⟩
abbrev s__law_row : Stmt := top 69
abbrev n__law_row : List Str := ["_law_purse_here", "_law_name", "_law_sides", "_law_shut", "_law_weight", "_law_bears", "_law_marks", "_law_mark"]
abbrev a__law_row : List Str := ["_law_purse_here", "_law_name"]
theorem sc__law_row : FnScope n__law_row a__law_row (defScope s__law_row) := ⟨rfl, rfl, rfl, by decide +kernel, rfl, by decide +kernel, by decide +kernel⟩
abbrev s__law_parcel : Stmt := top 70
abbrev n__law_parcel : List Str := ["_law_row_here", "_law_name", "_law_along", "_law_across", "_law_up", "_law_shut", "_law_weight", "_law_bears", "_law_marks"]
abbrev a__law_parcel : List Str := ["_law_row_here"]
theorem sc__law_parcel : FnScope n__law_parcel a__law_parcel (defScope s__law_parcel) := ⟨rfl, rfl, rfl, by decide +kernel, rfl, by decide +kernel, by decide +kernel⟩
abbrev s__law_heap : Stmt := top 71
abbrev n__law_heap : List Str := ["_law_rows", "_law_kept", "_law_row_here"]
abbrev a__law_heap : List Str := ["_law_rows"]
theorem sc__law_heap : FnScope n__law_heap a__law_heap (defScope s__law_heap) := ⟨rfl, rfl, rfl, by decide +kernel, rfl, by decide +kernel, by decide +kernel⟩
abbrev s__law_written : Stmt := top 72
abbrev n__law_written : List Str := ["_law_units_here", "_law_rows", "_law_lines", "_law_name", "_law_sides", "_law_shut", "_law_weight", "_law_bears", "_law_marks", "_law_sizes", "_law_words", "_law_mark", "_law_side"]
abbrev a__law_written : List Str := ["_law_units_here", "_law_rows"]
theorem sc__law_written : FnScope n__law_written a__law_written (defScope s__law_written) := ⟨rfl, rfl, rfl, by decide +kernel, rfl, by decide +kernel, by decide +kernel⟩
abbrev s__law_loose_text : Stmt := top 73
abbrev n__law_loose_text : List Str := ["_law_purse_here", "_law_units_here", "_law_rows", "_law_short", "_law_lines", "_law_name", "_law_sides", "_law_shut", "_law_weight", "_law_bears", "_law_marks", "_law_sizes", "_law_thick", "_law_words", "_law_at", "_law_turned", "_law_mark", "_law_side"]
abbrev a__law_loose_text : List Str := ["_law_purse_here", "_law_units_here", "_law_rows", "_law_short"]
theorem sc__law_loose_text : FnScope n__law_loose_text a__law_loose_text (defScope s__law_loose_text) := ⟨rfl, rfl, rfl, by decide +kernel, rfl, by decide +kernel, by decide +kernel⟩
abbrev s__law_is_heap : Stmt := top 74
abbrev n__law_is_heap : List Str := ["_law_found", "_law_rows", "_law_parcel_here", "_law_row_here", "_law_told"]
abbrev a__law_is_heap : List Str := ["_law_found", "_law_rows"]
theorem sc__law_is_heap : FnScope n__law_is_heap a__law_is_heap (defScope s__law_is_heap) := ⟨rfl, rfl, rfl, by decide +kernel, rfl, by decide +kernel, by decide +kernel⟩
abbrev s__law_other_units : Stmt := top 75
abbrev n__law_other_units : List Str := ["_law_purse_here", "_law_units_here", "_law_others", "_law_way", "_law_words", "_law_word", "_law_each", "_law_same"]
abbrev a__law_other_units : List Str := ["_law_purse_here", "_law_units_here"]
theorem sc__law_other_units : FnScope n__law_other_units a__law_other_units (defScope s__law_other_units) := ⟨rfl, rfl, rfl, by decide +kernel, rfl, by decide +kernel, by decide +kernel⟩
abbrev s_law : Stmt := top 76
abbrev n_law : List Str := ["_law_script", "_law_k", "_law_purse_here", "_law_short", "_law_many", "_law_units_here", "_law_others", "_law_rows", "_law_text", "_law_one", "_law_other", "_law_there", "_law_back", "_law_told", "_law_measure", "_law_found", "_law_name"]
abbrev a_law : List Str := ["_law_script"]
theorem sc_law : FnScope n_law a_law (defScope s_law) := ⟨rfl, rfl, rfl, by decide +kernel, rfl, by decide +kernel, by decide +kernel⟩
abbrev s_NoNumber___init__ : Stmt := inClass (top 4) 0
abbrev n_NoNumber___init__ : List Str := ["self", "found"]
abbrev a_NoNumber___init__ : List Str := ["self", "found"]
theorem sc_NoNumber___init__ : FnScope n_NoNumber___init__ a_NoNumber___init__ (defScope s_NoNumber___init__) := ⟨rfl, rfl, rfl, by decide +kernel, rfl, by decide +kernel, by decide +kernel⟩
abbrev s_NoSize___init__ : Stmt := inClass (top 7) 0
abbrev n_NoSize___init__ : List Str := ["self", "found"]
abbrev a_NoSize___init__ : List Str := ["self", "found"]
theorem sc_NoSize___init__ : FnScope n_NoSize___init__ a_NoSize___init__ (defScope s_NoSize___init__) := ⟨rfl, rfl, rfl, by decide +kernel, rfl, by decide +kernel, by decide +kernel⟩
abbrev s_NoMeasure___init__ : Stmt := inClass (top 8) 0
abbrev n_NoMeasure___init__ : List Str := ["self", "found"]
abbrev a_NoMeasure___init__ : List Str := ["self", "found"]
theorem sc_NoMeasure___init__ : FnScope n_NoMeasure___init__ a_NoMeasure___init__ (defScope s_NoMeasure___init__) := ⟨rfl, rfl, rfl, by decide +kernel, rfl, by decide +kernel, by decide +kernel⟩
abbrev s_NoSide___init__ : Stmt := inClass (top 9) 0
abbrev n_NoSide___init__ : List Str := ["self", "found"]
abbrev a_NoSide___init__ : List Str := ["self", "found"]
theorem sc_NoSide___init__ : FnScope n_NoSide___init__ a_NoSide___init__ (defScope s_NoSide___init__) := ⟨rfl, rfl, rfl, by decide +kernel, rfl, by decide +kernel, by decide +kernel⟩
abbrev s_NoOrder___init__ : Stmt := inClass (top 11) 0
abbrev n_NoOrder___init__ : List Str := ["self", "found"]
abbrev a_NoOrder___init__ : List Str := ["self", "found"]
theorem sc_NoOrder___init__ : FnScope n_NoOrder___init__ a_NoOrder___init__ (defScope s_NoOrder___init__) := ⟨rfl, rfl, rfl, by decide +kernel, rfl, by decide +kernel, by decide +kernel⟩
abbrev s_NoSides___init__ : Stmt := inClass (top 10) 0
abbrev n_NoSides___init__ : List Str := ["self", "found"]
abbrev a_NoSides___init__ : List Str := ["self", "found"]
theorem sc_NoSides___init__ : FnScope n_NoSides___init__ a_NoSides___init__ (defScope s_NoSides___init__) := ⟨rfl, rfl, rfl, by decide +kernel, rfl, by decide +kernel, by decide +kernel⟩
def perms : List (List Int) := [[0, 1, 2], [0, 2, 1], [1, 0, 2], [1, 2, 0], [2, 0, 1], [2, 1, 0]]
structure Tx (K : PySem.W.Frag) (mg : Str → Option Value) : Prop where
  b_all : mg "all" = none
  b_any : mg "any" = none
  b_bool : mg "bool" = none
  b_divmod : mg "divmod" = none
  b_int : mg "int" = none
  b_isinstance : mg "isinstance" = none
  b_len : mg "len" = none
  b_list : mg "list" = none
  b_max : mg "max" = none
  b_min : mg "min" = none
  b_range : mg "range" = none
  b_repr : mg "repr" = none
  b_reversed : mg "reversed" = none
  b_set : mg "set" = none
  b_str : mg "str" = none
  b_tuple : mg "tuple" = none
  b_zip : mg "zip" = none
  c_FIGURES : ∃ u, mg "FIGURES" = some u ∧ RelV (.str "0123456789") u
  c_LETTERS : ∃ u, mg "LETTERS" = some u ∧ RelV (.str "abcdefghijklmnopqrstuvwxyz") u
  c_MOST_PARCELS : ∃ u, mg "MOST_PARCELS" = some u ∧ RelV (.int 12) u
  c_MOST_POINTS : ∃ u, mg "MOST_POINTS" = some u ∧ RelV (.int 100000) u
  c_MOST_SIDE : ∃ u, mg "MOST_SIDE" = some u ∧ RelV (.int 100000) u
  c_MOST_SIZE : ∃ u, mg "MOST_SIZE" = some u ∧ RelV (.int 1000000) u
  c_MOST_WALL : ∃ u, mg "MOST_WALL" = some u ∧ RelV (.int 1000) u
  c_MOST_WEIGHT : ∃ u, mg "MOST_WEIGHT" = some u ∧ RelV (.int 100000) u
  c_KEPT : ∃ a : Addr, (∃ u, mg "KEPT" = some u ∧ RelV (.ref a) u) ∧ ∀ H S, Rep K H S (.ref a) (.tup [.str "rest", .str "none", .str "any", .str "x", .str "wall", .str "weight", .str "bears", .str "label", .str "price"])
  c_LABELS : ∃ a : Addr, (∃ u, mg "LABELS" = some u ∧ RelV (.ref a) u) ∧ ∀ H S, Rep K H S (.ref a) (.tup [.str "alone", .str "top", .str "upright"])
  c_MARKS : ∃ a : Addr, (∃ u, mg "MARKS" = some u ∧ RelV (.ref a) u) ∧ ∀ H S, Rep K H S (.ref a) (.tup [.str "x", .str "x", .str "wall", .str "weight"])
  c_ORDERS : ∃ a : Addr, (∃ u, mg "ORDERS" = some u ∧ RelV (.ref a) u) ∧ ∀ H S, Rep K H S (.ref a) (.tup (perms.map fun p => .tup (p.map .int)))
  e_NoSize_NoSize : ∀ A B : Addr, mg "NoSize" = some (.ref A) → mg "NoSize" = some (.ref B) → PySem.W.exmOne K (.ref A) (.ref B) = some true
structure Kl_Measure (K : PySem.W.Frag) (mg : Str → Option Value) (C : Addr) : Prop where
  at_ : mg "Measure" = some (.ref C)
  ins : C8.InsC K C
  a_called : NoAttr K C "called"
  a_parts : NoAttr K C "parts"
  t_int : PySem.W.kitOne K (.type "int") (.ref C) = some false
  t_bool : PySem.W.kitOne K (.type "bool") (.ref C) = some false
  t_str : PySem.W.kitOne K (.type "str") (.ref C) = some false
  t_NoneType : PySem.W.kitOne K (.type "NoneType") (.ref C) = some false
  t_list : PySem.W.kitOne K (.type "list") (.ref C) = some false
  t_tuple : PySem.W.kitOne K (.type "tuple") (.ref C) = some false
  t_dict : PySem.W.kitOne K (.type "dict") (.ref C) = some false
  u_int : PySem.W.kitOne K (.ref C) (.type "int") = some false
  u_str : PySem.W.kitOne K (.ref C) (.type "str") = some false
  u_list : PySem.W.kitOne K (.ref C) (.type "list") = some false
structure Kl_Sides (K : PySem.W.Frag) (mg : Str → Option Value) (C : Addr) : Prop where
  at_ : mg "Sides" = some (.ref C)
  ins : C8.InsC K C
  a_three : NoAttr K C "three"
  t_int : PySem.W.kitOne K (.type "int") (.ref C) = some false
  t_bool : PySem.W.kitOne K (.type "bool") (.ref C) = some false
  t_str : PySem.W.kitOne K (.type "str") (.ref C) = some false
  t_NoneType : PySem.W.kitOne K (.type "NoneType") (.ref C) = some false
  t_list : PySem.W.kitOne K (.type "list") (.ref C) = some false
  t_tuple : PySem.W.kitOne K (.type "tuple") (.ref C) = some false
  t_dict : PySem.W.kitOne K (.type "dict") (.ref C) = some false
structure Kl_Parcel (K : PySem.W.Frag) (mg : Str → Option Value) (C : Addr) : Prop where
  at_ : mg "Parcel" = some (.ref C)
  ins : C8.InsC K C
  a_called : NoAttr K C "called"
  a_outside : NoAttr K C "outside"
  a_thick : NoAttr K C "thick"
  a_heavy : NoAttr K C "heavy"
  a_strong : NoAttr K C "strong"
  a_marks : NoAttr K C "marks"
  t_int : PySem.W.kitOne K (.type "int") (.ref C) = some false
  t_bool : PySem.W.kitOne K (.type "bool") (.ref C) = some false
  t_str : PySem.W.kitOne K (.type "str") (.ref C) = some false
  t_NoneType : PySem.W.kitOne K (.type "NoneType") (.ref C) = some false
  t_list : PySem.W.kitOne K (.type "list") (.ref C) = some false
  t_tuple : PySem.W.kitOne K (.type "tuple") (.ref C) = some false
  t_dict : PySem.W.kitOne K (.type "dict") (.ref C) = some false
  l_obj : PySem.W.mroIn K C (.type "object") = some true
  l_ne : PySem.W.findIn K (.ref C) "__ne__" = some (some (.builtin "object.__ne__"))
structure Kl_Heap (K : PySem.W.Frag) (mg : Str → Option Value) (C : Addr) : Prop where
  at_ : mg "Heap" = some (.ref C)
  ins : C8.InsC K C
  a_held : NoAttr K C "held"
end LW
namespace LW
open PySem L2 C8 PySem.Spec PyProof.Rows VS
/-- what a thing is, as far as whole numbers go -/
inductive Wh (K : PySem.W.Frag) (S : Sto) : D → Option Int → Prop
  | i (i : Int) : Wh K S (.int i) (some i)
  | b (b : Bool) : Wh K S (.bl b) none
  | o {d : D} {t : Value} (h : OfC K S d t) (k : PySem.W.kitOne K t (.type "int") = some false) (n : ∀ i, d ≠ .int i) : Wh K S d none
def whB (o : Option Int) (lo hi : Int) : Bool := match o with
  | some i => decide (lo ≤ i) && decide (i ≤ hi)
  | none => false
theorem whB_yes {o : Option Int} {lo hi : Int} (h : whB o lo hi = true) : ∃ i, o = some i ∧ lo ≤ i ∧ i ≤ hi := by
  cases o with
  | none => cases h
  | some i =>
    have h' : (decide (lo ≤ i) && decide (i ≤ hi)) = true := h
    rw [Bool.and_eq_true] at h'
    exact ⟨i, rfl, of_decide_eq_true h'.1, of_decide_eq_true h'.2⟩
theorem whB_of {i lo hi : Int} (h : lo ≤ i ∧ i ≤ hi) : whB (some i) lo hi = true := by
  show (decide (lo ≤ i) && decide (i ≤ hi)) = true
  rw [decide_eq_true h.1, decide_eq_true h.2]; rfl
theorem Wh.some {K : PySem.W.Frag} {S : Sto} {d : D} {i : Int} (h : Wh K S d (some i)) : d = .int i := by cases h; rfl
def p_is_whole (K : PySem.W.Frag) : Pt := fun ds S G _ => ∃ d o lo hi, ds = [d, .int lo, .int hi] ∧ Wh K S d o ∧ G (.bl (whB o lo hi)) S
section
variable {P : Program} {w : World} {K : PySem.W.Frag} {mg : Str → Option Value} {base : Heap}
theorem ok_is_whole {f : Addr} {fd : FuncData} {C_Measure C_Sides C_Parcel C_Heap C_NoNumber C_NoSize C_NoMeasure C_NoSide C_NoOrder C_NoSides : Addr}
    (F : Fd K "is_whole" "is_whole" s_is_whole [] f fd) (T : Tx K mg) (hsys : SysOk base) :
    FnG P w K mg base (L2.CX P w) 1 f fd a_is_whole (spOf K (p_is_whole K)) := by
  refine VS.unbox ?_
  simp (disch := with_unfolding_all
    refine fn_val F sc_is_whole (fun ds S G Y h => ?_) (fun cdv A hgd outer s H E hr px tk po ds S G Y h => ?_)
    · obtain ⟨d, o, lo, hi, rfl, _⟩ := h
      rfl
    · obtain ⟨d, o, lo, hi, rfl, h, q⟩ := h
      refine ⟨_, (pss_one (ps_ret (pe_and (pe_callB c_isiZ (by rfl) T.b_isinstance (by decide +kernel) (pa_cons (pv 0) (pa_cons (pe_bltn (v := .ty "int") (by rfl) T.b_int (by decide +kernel) rfl) pa_nil))) (pe_and (pe_not (pe_callB c_isiZ (by rfl) T.b_isinstance (by decide +kernel) (pa_cons (pv 0) (pa_cons (pe_bltn (v := .ty "bool") (by rfl) T.b_bool (by decide +kernel) rfl) pa_nil)))) (pe_one (pe_chain op_le op_le (pv 1) (pv 0) (pv 2))))))), ?_⟩
      dsimp only [cxOf, List.map]
      show VX _ _ [_, _, _] _ _
      cases h with
      | i i =>
        walk_at "go"
        refine br (fun h1 => ?_) (fun h1 => ?_)
        · walk_at "go"
          have e : whB (some i) lo hi = decide (i ≤ hi) := by show (decide (lo ≤ i) && decide (i ≤ hi)) = _; rw [decide_eq_true h1]; rfl
          rw [← e]
          exact q
        · have e : whB (some i) lo hi = false := by show (decide (lo ≤ i) && decide (i ≤ hi)) = _; rw [decide_eq_false h1]; rfl
          rw [← e]
          exact q
      | b b =>
        walk_at "go"
        exact q
      | o ht hk hn =>
        walk_at "go"
        refine rc_isiP ht hk ?_
        walk_at "go"
        exact q) only [↓VS.box]
end
/-! ### orders -/
def ordB : List D → Bool
  | [.int a, .int b, .int c] => perms.contains [a, b, c]
  | _ => false
theorem ordB_len {xs : List D} (h : xs.length ≠ 3) : ordB xs = false := by
  unfold ordB
  split
  · exact absurd rfl h
  · rfl
theorem ordB_yes {xs : List D} (h : ordB xs = true) : ∃ p ∈ perms, xs = p.map D.int := by
  unfold ordB at h
  split at h
  · rename_i a b c
    exact ⟨[a, b, c], List.contains_iff_mem.mp h, rfl⟩
  · cases h
theorem ordB_of {p : List Int} (h : p ∈ perms) : ordB (p.map D.int) = true := by
  simp only [perms, List.mem_cons, List.not_mem_nil, or_false] at h
  rcases h with rfl | rfl | rfl | rfl | rfl | rfl <;> rfl
/-- what a thing is, as far as orders go -/
inductive Od (K : PySem.W.Frag) (S : Sto) : D → Bool → Prop
  | t {xs : List D} (hl : xs.length ≤ 1000) (h : ∀ x ∈ xs, ∃ o, Wh K S x o) : Od K S (.tup xs) (ordB xs)
  | o {d : D} {t : Value} (h : OfC K S d t) (k : PySem.W.kitOne K t (.type "tuple") = some false) : Od K S d false
theorem Od.perm {K : PySem.W.Frag} {S : Sto} {p : List Int} (h : p ∈ perms) : Od K S (.tup (p.map D.int)) true := by
  rw [← ordB_of h]
  refine .t ?_ fun x hx => ?_
  · simp only [perms, List.mem_cons, List.not_mem_nil, or_false] at h
    rcases h with rfl | rfl | rfl | rfl | rfl | rfl <;> decide
  · obtain ⟨i, _, rfl⟩ := List.mem_map.mp hx
    exact ⟨_, .i i⟩
theorem Od.yes {K : PySem.W.Frag} {S : Sto} {d : D} {b : Bool} (h : Od K S d b) (e : b = true) : ∃ p ∈ perms, d = .tup (p.map D.int) := by
  cases h with
  | t hl h =>
    obtain ⟨p, hp, rfl⟩ := ordB_yes e
    exact ⟨p, hp, rfl⟩
  | o => cases e
def p_is_order (K : PySem.W.Frag) : Pt := fun ds S G _ => ∃ d b, ds = [d] ∧ Od K S d b ∧ G (.bl b) S
section
variable {P : Program} {w : World} {K : PySem.W.Frag} {mg : Str → Option Value} {base : Heap}
theorem ok_is_order {f : Addr} {fd : FuncData} {C_Measure C_Sides C_Parcel C_Heap C_NoNumber C_NoSize C_NoMeasure C_NoSide C_NoOrder C_NoSides : Addr} {f_is_whole : Addr} {g_is_whole : FuncData}
    (F : Fd K "is_order" "is_order" s_is_order [] f fd) (T : Tx K mg) (hsys : SysOk base)
    (c_is_whole : Cf P w K mg base (L2.CX P w) 1 "is_whole" s_is_whole [] a_is_whole (p_is_whole K) f_is_whole g_is_whole) :
    FnG P w K mg base (L2.CX P w) 2 f fd a_is_order (spOf K (p_is_order K)) := by
  refine VS.unbox ?_
  simp (disch := with_unfolding_all
    refine fn_val F sc_is_order (fun ds S G Y h => ?_) (fun cdv A hgd outer s H E hr px tk po ds S G Y h => ?_)
    · obtain ⟨d, b, rfl, _⟩ := h
      rfl
    · obtain ⟨d, b, rfl, h, k⟩ := h
      obtain ⟨aO, hO, rO⟩ := T.c_ORDERS
      refine ⟨_, (pss_cons (ps_if (PW.pt (pw_or (pt_not (pt_val (pe_callB c_isiZ (by rfl) T.b_isinstance (by decide +kernel) (pa_cons (pv 0) (pa_cons (pe_bltn (v := .ty "tuple") (by rfl) T.b_tuple (by decide +kernel) rfl) pa_nil))))) (pw_or1 (pt_cmpR op_ne (pe_callB c_len (by rfl) T.b_len (by decide +kernel) (pa_cons (pv 0) pa_nil)) pe_int (nomark _))))) (pss_one (ps_ret pe_bl))
        pss_nil)
        (pss_one (ps_ret (pe_and (pe_callB (cr_all rfl) (by rfl) T.b_all (by decide +kernel) (pa_cons (pe_lc (own := [("number", 1)]) rfl sc_is_order.nd (pi_tup (pv 0)) (blkOk_by (own := [("number", 1)]) (N := n_is_order) (sc := defScope s_is_order) (by decide +kernel)) (fun _ _ _ _ _ => (pg_name (i := 1) sc_is_order.nd rfl (Or.inl rfl))) (fun _ _ _ _ _ => pts_nil) (fun _ _ _ _ _ => (pe_cG c_is_whole.fn hgd (hr.mono (by decide)) (by rfl) c_is_whole.mg c_is_whole.kp c_is_whole.b .nil VS.pass0 (pa_cons (pv 1) (pa_cons pe_int (pa_cons pe_int pa_nil)))))) pa_nil)) (pe_one (pe_cmpR (op_inP hr hsys) (pv 0) (pe_gc (by rfl) hO) (by rfl))))))), ?_⟩
      dsimp only [cxOf, List.map]
      show VX _ _ [_, _] _ _
      cases h with
      | @o d t ht hk =>
        walk_at "go"
        refine rc_isiP ht hk ?_
        walk_at "go"
        exact k
      | @t xs hz hk =>
        walk_at "go"
        refine rc_lenQ .t ?_
        walk_at "go"
        refine brN (fun h1 => ?_) (fun h1 => ?_)
        · walk_at "go"
          rw [ordB_len (fun e => h1 (by rw [e]; rfl))] at k
          exact k
        have h1' : xs.length = 3 := by exact_mod_cast h1
        walk_at "go"
        refine ve_lc (vi_tup (ve_var rfl ⟨xs, rfl, ?_⟩))
        refine ⟨by omega, fun i acc S2 => S2 = S ∧ ∃ bs : List Bool, acc = bs.map .bl ∧ (bs.all id = true ↔ ∀ x ∈ xs.take i, ∃ j : Int, x = .int j ∧ 0 ≤ j ∧ j ≤ 2), ⟨rfl, [], rfl, by simp⟩, ?_, ?_⟩
        · rintro i d acc S2 hd ⟨rfl, bs, rfl, hb⟩ hl
          have htk : xs.take (i + 1) = xs.take i ++ [d] := by rw [List.take_succ, hd]; rfl
          obtain ⟨o, ho⟩ := hk d (List.mem_of_getElem? hd)
          walk_at "go"
          refine ⟨d, o, 0, 2, rfl, ho, rfl, bs ++ [whB o 0 2], by rw [List.map_append]; rfl, ?_⟩
          rw [htk, List.all_append, Bool.and_eq_true, hb]
          constructor
          · rintro ⟨g1, g2⟩ x hx
            rcases List.mem_append.mp hx with q | q
            · exact g1 x q
            · rw [List.mem_singleton.mp q]
              have g3 : whB o 0 2 = true := by simpa using g2
              obtain ⟨j, rfl, j0, j2⟩ := whB_yes g3
              exact ⟨j, ho.some, j0, j2⟩
          · intro g
            refine ⟨fun x hx => g x (List.mem_append_left _ hx), ?_⟩
            obtain ⟨j, e, j0, j2⟩ := g d (List.mem_append_right _ (List.mem_cons_self ..))
            subst e
            cases ho with
            | i j =>
              have := whB_of (i := j) ⟨j0, j2⟩
              simpa using this
            | o h k n => exact absurd rfl (n _)
        · rintro acc S2 ⟨rfl, bs, rfl, hb⟩ hl
          rw [List.take_length] at hb
          walk_at "go"
          refine rc_all .v ?_
          walk_at "go"
          refine br2 (fun h2 => ?_) (fun h2 => ?_)
          · have hall := hb.mp h2
            walk_at "go"
            refine ve_wr (rO · ·) ?_
            match xs, h1', hall with
            | [x, y, z], _, hall =>
              obtain ⟨a, rfl, a0, a2⟩ := hall x (by simp)
              obtain ⟨b, rfl, b0, b2⟩ := hall y (by simp)
              obtain ⟨c, rfl, c0, c2⟩ := hall z (by simp)
              refine rv_inP rfl rfl rfl rfl ?_
              have e : ordB [.int a, .int b, .int c] = ((pdL (perms.map fun p => .tup (p.map .int))).any fun z => PyData.eqv z (pd (.tup [.int a, .int b, .int c]))) := by
                have ha : a = 0 ∨ a = 1 ∨ a = 2 := by omega
                have hbq : b = 0 ∨ b = 1 ∨ b = 2 := by omega
                have hc : c = 0 ∨ c = 1 ∨ c = 2 := by omega
                rcases ha with rfl | rfl | rfl <;> rcases hbq with rfl | rfl | rfl <;> rcases hc with rfl | rfl | rfl <;> rfl
              rw [← e]
              exact k
          · walk_at "go"
            rw [show ordB xs = false from ?_] at k
            · exact k
            · have hn : ¬ ∀ x ∈ xs, ∃ j : Int, x = .int j ∧ 0 ≤ j ∧ j ≤ 2 := fun g => by
                rw [hb.mpr g] at h2
                cases h2
              refine Bool.eq_false_iff.mpr fun g => hn fun x hx => ?_
              obtain ⟨p, hp, rfl⟩ := ordB_yes g
              obtain ⟨i, hi, rfl⟩ := List.mem_map.mp hx
              refine ⟨i, rfl, ?_⟩
              simp only [perms, List.mem_cons, List.not_mem_nil, or_false] at hp
              rcases hp with rfl | rfl | rfl | rfl | rfl | rfl <;> simp only [List.mem_cons, List.not_mem_nil, or_false] at hi <;> rcases hi with rfl | rfl | rfl <;> omega) only [↓VS.box]
end
end LW
namespace LW
open PySem L2 C8 PySem.Spec PyProof.Rows VS
/-! ### Sides by value -/
def fD (t : D) : List (Str × D) := [("three", t)]
def sd (C : Addr) (a b c : Int) : D := .ins C (fD (.tup [.int a, .int b, .int c]))
def In1 (a : Int) : Prop := 1 ≤ a ∧ a ≤ 100000
/-- the first thing that is no side -/
def bad : List (D × Option Int) → Option D
  | [] => none
  | (d, o) :: r => if whB o 1 100000 = true then bad r else some d
def p_Sides_init (K : PySem.W.Frag) (CS CX : Addr) : Pt := fun ds S G Y => ∃ y d1 d2 d3 o1 o2 o3, ds = [.ref y, d1, d2, d3] ∧ S y = some (.ins CS []) ∧ Wh K S d1 o1 ∧ Wh K S d2 o2 ∧ Wh K S d3 o3 ∧
  (bad [(d1, o1), (d2, o2), (d3, o3)] = none → G .non (put S y (.ins CS (fD (.tup [d1, d2, d3]))))) ∧ ∀ d, bad [(d1, o1), (d2, o2), (d3, o3)] = some d → Y CX [("found", d)] S
theorem bad_of {a b c : Int} {d1 d2 d3 : D} (ha : In1 a) (hb : In1 b) (hc : In1 c) : bad [(d1, some a), (d2, some b), (d3, some c)] = none := by
  unfold bad
  rw [if_pos (whB_of ha)]
  unfold bad
  rw [if_pos (whB_of hb)]
  unfold bad
  rw [if_pos (whB_of hc)]
  rfl
/-- the call of the maker where all is good -/
theorem init_ok {K : PySem.W.Frag} {CS CX : Addr} {a b c : Int} (ha : In1 a) (hb : In1 b) (hc : In1 c) {y : Addr} {S : Sto} (hy : S y = none) {G : D → Sto → Prop} {Y : Addr → List (Str × D) → Sto → Prop} (q : G .non (put (put S y (.ins CS [])) y (sd CS a b c))) :
    p_Sides_init K CS CX [.ref y, .int a, .int b, .int c] (put S y (.ins CS [])) G Y :=
  ⟨y, _, _, _, _, _, _, rfl, put_same, .i a, .i b, .i c, fun _ => q, fun d h => by rw [bad_of ha hb hc] at h; cases h⟩
def p_told (CS : Addr) : Pt := fun ds S G _ => ∃ a b c, ds = [sd CS a b c] ∧ G (.tup [.int a, .int b, .int c]) S
def p_ranked (CS : Addr) : Pt := fun ds S G _ => ∃ a b c, ds = [sd CS a b c] ∧ G (.tup ((dn [a, b, c]).map D.int)) S
/-- the side of a number -/
def tn (a b c i : Int) : Int := if i = 0 then a else if i = 1 then b else c
def tnl (a b c : Int) (p : List Int) : List Int := p.map (tn a b c)
theorem perm_len {p : List Int} (h : p ∈ perms) : ∃ i j k, p = [i, j, k] ∧ (i = 0 ∨ i = 1 ∨ i = 2) ∧ (j = 0 ∨ j = 1 ∨ j = 2) ∧ (k = 0 ∨ k = 1 ∨ k = 2) := by
  simp only [perms, List.mem_cons, List.not_mem_nil, or_false] at h
  rcases h with rfl | rfl | rfl | rfl | rfl | rfl <;> exact ⟨_, _, _, rfl, by decide, by decide, by decide⟩
theorem tn_in {a b c i : Int} (ha : In1 a) (hb : In1 b) (hc : In1 c) : In1 (tn a b c i) := by
  unfold tn
  split
  · exact ha
  · split
    · exact hb
    · exact hc
/-- turned by an order -/
def sdl (C : Addr) : List Int → D
  | [a, b, c] => sd C a b c
  | _ => .non
def p_turned (K : PySem.W.Frag) (CS CX : Addr) : Pt := fun ds S G Y => ∃ a b c d k, ds = [sd CS a b c, d] ∧ In1 a ∧ In1 b ∧ In1 c ∧ Od K S d k ∧ (k = true → ∀ p ∈ perms, d = .tup (p.map D.int) → G (sdl CS (tnl a b c p)) S) ∧ (k = false → Y CX [("found", d)] S)
/-- .. a good order -/
theorem turned_ok {K : PySem.W.Frag} {CS CX : Addr} {a b c : Int} {p : List Int} (ha : In1 a) (hb : In1 b) (hc : In1 c) (hp : p ∈ perms) {S : Sto} {G : D → Sto → Prop} {Y : Addr → List (Str × D) → Sto → Prop} (q : G (sdl CS (tnl a b c p)) S) :
    p_turned K CS CX [sd CS a b c, .tup (p.map D.int)] S G Y := by
  refine ⟨a, b, c, _, _, rfl, ha, hb, hc, .perm hp, fun _ p' hp' e => ?_, fun z => by cases z⟩
  have e' : p = p' := by
    injection e with e
    exact List.map_inj_right (fun x y h => by injection h) |>.mp e
  rw [← e']
  exact q
def p_orders_to (K : PySem.W.Frag) (CS CX : Addr) : Pt := fun ds S G Y => ∃ a b c d, ds = [sd CS a b c, d] ∧ In1 a ∧ In1 b ∧ In1 c ∧
  ((∃ x y z, d = sd CS x y z ∧ G (.lst ((perms.filter fun p => decide (tnl a b c p = [x, y, z])).map fun p => .tup (p.map D.int))) S) ∨ (∃ t, OfC K S d t ∧ PySem.W.kitOne K t (.ref CS) = some false ∧ Y CX [("found", d)] S))
section
variable {P : Program} {w : World} {K : PySem.W.Frag} {mg : Str → Option Value} {base : Heap}
theorem ok_Sides___init__ {f : Addr} {fd : FuncData} {C_Measure C_Sides C_Parcel C_Heap C_NoNumber C_NoSize C_NoMeasure C_NoSide C_NoOrder C_NoSides : Addr} {f_is_whole : Addr} {g_is_whole : FuncData}
    (F : Fd K "__init__" "Sides.__init__" s_Sides___init__ [] f fd) (T : Tx K mg) (hsys : SysOk base)
    (c_is_whole : Cf P w K mg base (L2.CX P w) 1 "is_whole" s_is_whole [] a_is_whole (p_is_whole K) f_is_whole g_is_whole)
    (x_NoSide : Xc P w K mg base "NoSide" C_NoSide "found")
    (k_Sides : Kl_Sides K mg C_Sides) :
    FnG P w K mg base (L2.CX P w) 3 f fd a_Sides___init__ (spOf K (p_Sides_init K C_Sides C_NoSide)) := by
  refine VS.unbox ?_
  simp (disch := with_unfolding_all
    have kc_Sides := k_Sides.ins.cl
    have ka_Sides_three := k_Sides.a_three
    refine fn_val F sc_Sides___init__ (fun ds S G Y h => ?_) (fun cdv A hgd outer s H E hr px tk po ds S G Y h => ?_)
    · obtain ⟨y, d1, d2, d3, o1, o2, o3, rfl, _⟩ := h
      rfl
    · obtain ⟨y, d1, d2, d3, o1, o2, o3, rfl, hy, w1, w2, w3, q, qx⟩ := h
      refine ⟨_, (pss_cons (ps_for po rfl (pi_tup (pe_tup (pa_cons (pv 1) (pa_cons (pv 2) (pa_cons (pv 3) pa_nil))))) (pg_name (i := 4) sc_Sides___init__.nd rfl (Or.inl rfl))
        (pss_one (ps_if (pt_not (pt_val (pe_cG c_is_whole.fn hgd (hr.mono (by decide)) (by rfl) c_is_whole.mg c_is_whole.kp c_is_whole.b .nil VS.pass0 (pa_cons (pv 4) (pa_cons pe_int (pa_cons (pe_gc (by rfl) T.c_MOST_SIDE) pa_nil)))))) (pss_one (ps_rz tk x_NoSide (hr.mono (by decide)) (by rfl) (pv 4)))
        pss_nil)))
        (pss_one (ps_fld (pv 0) (pe_tup (pa_cons (pv 1) (pa_cons (pv 2) (pa_cons (pv 3) pa_nil)))) rfl))), ?_⟩
      dsimp only [cxOf, List.map]
      show VX _ _ [_, _, _, _, _] _ _
      walk_at "go"
      refine vx_for (vi_tup ?_)
      walk_at "go"
      refine ⟨by show 3 ≤ sizeLine; decide, ?_⟩
      have step : ∀ (d : D) (o : Option Int) (ρ4 : Option D) (W : Nat → Rho → Sto → Prop) (i : Nat), Wh K S d o → (whB o 1 100000 = true → ∀ x, W (i + 1) [some (.ref y), some d1, some d2, some d3, x] S) → (whB o 1 100000 = false → Y C_NoSide [("found", d)] S) → True := fun _ _ _ _ _ _ _ _ => trivial
      refine ⟨_, rfl, fun i ρ2 S2 => S2 = S ∧ ∃ x, ρ2 = [some (.ref y), some d1, some d2, some d3, x] ∧ bad (([(d1, o1), (d2, o2), (d3, o3)]).drop i) = bad [(d1, o1), (d2, o2), (d3, o3)], ⟨rfl, _, rfl, rfl⟩, ?_, ?_⟩
      · rintro i d ρ2 S2 hd ⟨rfl, x, rfl, hb⟩
        walk_at "go"
        have hk : ∃ o, Wh K S2 d o ∧ ([(d1, o1), (d2, o2), (d3, o3)] : List (D × Option Int)).drop i = (d, o) :: ([(d1, o1), (d2, o2), (d3, o3)]).drop (i + 1) := by
          have hi := (List.getElem?_eq_some_iff.mp hd).1
          match i, hi, hd with
          | 0, _, hd => cases hd; exact ⟨o1, w1, rfl⟩
          | 1, _, hd => cases hd; exact ⟨o2, w2, rfl⟩
          | 2, _, hd => cases hd; exact ⟨o3, w3, rfl⟩
        obtain ⟨o, wo, ed⟩ := hk
        rw [ed] at hb
        refine ⟨d, o, 1, 100000, rfl, wo, ?_⟩
        walk_at "go"
        refine brB (fun h1 => ?_) (fun h1 => ?_)
        · walk_at "go"
          refine vx_raise ?_
          walk_at "go"
          refine qx d ?_
          rw [← hb]
          unfold bad
          rw [if_neg (by rw [h1]; decide)]
        · walk_at "go"
          refine ⟨rfl, _, rfl, ?_⟩
          rw [← hb]
          conv => rhs; unfold bad
          rw [if_pos h1]
      · rintro ρ2 S2 ⟨rfl, x, rfl, hb⟩
        walk_at "go"
        refine ⟨by show 3 ≤ sizeLine; decide, ?_⟩
        walk_at "go"
        refine ⟨_, _, _, rfl, hy, k_Sides.ins.cl, k_Sides.a_three, by decide, ?_⟩
        walk_at "go"
        exact q hb.symm) only [↓VS.box]
theorem ok_Sides_told {f : Addr} {fd : FuncData} {C_Measure C_Sides C_Parcel C_Heap C_NoNumber C_NoSize C_NoMeasure C_NoSide C_NoOrder C_NoSides : Addr}
    (F : Fd K "told" "Sides.told" s_Sides_told [] f fd) (T : Tx K mg) (hsys : SysOk base)
    (k_Sides : Kl_Sides K mg C_Sides) :
    FnG P w K mg base (L2.CX P w) 1 f fd a_Sides_told (spOf K (p_told C_Sides)) := by
  refine VS.unbox ?_
  simp (disch := with_unfolding_all
    have kc_Sides := k_Sides.ins.cl
    have ka_Sides_three := k_Sides.a_three
    refine fn_val F sc_Sides_told (fun ds S G Y h => ?_) (fun cdv A hgd outer s H E hr px tk po ds S G Y h => ?_)
    · obtain ⟨a, b, c, rfl, _⟩ := h
      rfl
    · obtain ⟨a, b, c, rfl, q⟩ := h
      refine ⟨_, (pss_one (ps_ret (pe_fld (pv 0) rfl))), ?_⟩
      dsimp only [cxOf, List.map]
      show VX _ _ [_] _ _
      walk_at "go"
      exact ⟨_, _, _, .v, k_Sides.ins.cl, k_Sides.a_three, rfl, q⟩) only [↓VS.box]
theorem ok_Sides_turned {f : Addr} {fd : FuncData} {C_Measure C_Sides C_Parcel C_Heap C_NoNumber C_NoSize C_NoMeasure C_NoSide C_NoOrder C_NoSides : Addr} {f_is_order f_Sides : Addr} {g_is_order g_Sides : FuncData}
    (F : Fd K "turned" "Sides.turned" s_Sides_turned [] f fd) (T : Tx K mg) (hsys : SysOk base)
    (c_is_order : Cf P w K mg base (L2.CX P w) 2 "is_order" s_is_order [] a_is_order (p_is_order K) f_is_order g_is_order)
    (c_Sides : Kf P w K mg base 3 "Sides" C_Sides "Sides.__init__" s_Sides___init__ [] a_Sides___init__ (p_Sides_init K C_Sides C_NoSide) f_Sides g_Sides)
    (x_NoOrder : Xc P w K mg base "NoOrder" C_NoOrder "found")
    (k_Sides : Kl_Sides K mg C_Sides) :
    FnG P w K mg base (L2.CX P w) 5 f fd a_Sides_turned (spOf K (p_turned K C_Sides C_NoOrder)) := by
  refine VS.unbox ?_
  simp (disch := with_unfolding_all
    have kc_Sides := k_Sides.ins.cl
    have ka_Sides_three := k_Sides.a_three
    refine fn_val F sc_Sides_turned (fun ds S G Y h => ?_) (fun cdv A hgd outer s H E hr px tk po ds S G Y h => ?_)
    · obtain ⟨a, b, c, d, k, rfl, _⟩ := h
      rfl
    · obtain ⟨a, b, c, d, k, rfl, ha, hb, hc, hd, q, qx⟩ := h
      refine ⟨_, (pss_cons (ps_if (pt_not (pt_val (pe_cG c_is_order.fn hgd (hr.mono (by decide)) (by rfl) c_is_order.mg c_is_order.kp c_is_order.b .nil VS.pass0 (pa_cons (pv 1) pa_nil)))) (pss_one (ps_rz tk x_NoOrder (hr.mono (by decide)) (by rfl) (pv 1)))
        pss_nil)
        (pss_cons (ps_asg (pe_lc (own := [("number", 5)]) rfl sc_Sides_turned.nd (pi_tup (pv 1)) (blkOk_by (own := [("number", 5)]) (N := n_Sides_turned) (sc := defScope s_Sides_turned) (by decide +kernel)) (fun _ _ _ _ _ => (pg_name (i := 5) sc_Sides_turned.nd rfl (Or.inl rfl))) (fun _ _ _ _ _ => pts_nil) (fun _ _ _ _ _ => (pe_ix (kI (K := K) (r := rIxT) ix_tup) (kFld (K := K) (pe_fld (pv 0) rfl)) (pv 5) (fun _ _ => rfl)))) (pg_unl (n := 3) rfl (pgs_cons (pg_name (i := 2) sc_Sides_turned.nd rfl (Or.inl rfl)) (pgs_cons (pg_name (i := 3) sc_Sides_turned.nd rfl (Or.inl rfl)) (pgs_cons (pg_name (i := 4) sc_Sides_turned.nd rfl (Or.inl rfl)) pgs_nil)))))
        (pss_one (ps_ret (pe_kG c_Sides.mk_ c_Sides.fn hgd (hr.mono (by decide)) (by rfl) c_Sides.mg  c_Sides.b .nil VS.pass0 (pa_cons (pv 2) (pa_cons (pv 3) (pa_cons (pv 4) pa_nil)))))))), ?_⟩
      dsimp only [cxOf, List.map]
      show VX _ _ [_, _, _, _, _, _] _ _
      walk_at "go"
      refine ⟨d, k, rfl, hd, ?_⟩
      walk_at "go"
      refine brB (fun h1 => ?_) (fun h1 => ?_)
      · walk_at "go"
        refine vx_raise ?_
        walk_at "go"
        exact qx h1
      · obtain ⟨p, hp, rfl⟩ := hd.yes h1
        have q := q h1 p hp rfl
        walk_at "go"
        refine ve_lcM (fun x => match x with | .int i => .int (tn a b c i) | _ => .non) (vi_tup (ve_var rfl ⟨_, rfl, ?_⟩))
        obtain ⟨i, j, l, rfl, hi, hj, hl⟩ := perm_len hp
        refine ⟨by show 3 ≤ 100000; decide, fun x hx => ?_, ?_⟩
        · obtain ⟨n, hn, rfl⟩ := List.mem_map.mp hx
          have hn : n = 0 ∨ n = 1 ∨ n = 2 := by
            simp only [List.mem_cons, List.not_mem_nil, or_false] at hn
            rcases hn with rfl | rfl | rfl <;> assumption
          walk_at "go"
          refine ⟨rfl, ?_⟩
          walk_at "go"
          refine ⟨_, _, _, .v, k_Sides.ins.cl, k_Sides.a_three, rfl, ?_⟩
          walk_at "go"
          rcases hn with rfl | rfl | rfl
          · exact rv_ixT rfl ⟨rfl, rfl⟩
          · exact rv_ixT rfl ⟨rfl, rfl⟩
          · exact rv_ixT rfl ⟨rfl, rfl⟩
        refine vg_unl .v rfl ?_
        show VGs _ _ [_, _, _] _ _ _
        walk_at "go"
        refine ve_mk0 (XOk.none (E := noE)) ?_
        walk_at "go"
        intro y hy
        refine init_ok (tn_in ha hb hc) (tn_in ha hb hc) (tn_in ha hb hc) hy ⟨rfl, y, _, rfl, put_same, nofun, ?_⟩
        rw [del_put2 hy]
        exact q) only [↓VS.box]
theorem ok_Sides_orders_to {f : Addr} {fd : FuncData} {C_Measure C_Sides C_Parcel C_Heap C_NoNumber C_NoSize C_NoMeasure C_NoSide C_NoOrder C_NoSides : Addr} {f_Sides_turned f_Sides_told : Addr} {g_Sides_turned g_Sides_told : FuncData}
    (F : Fd K "orders_to" "Sides.orders_to" s_Sides_orders_to [] f fd) (T : Tx K mg) (hsys : SysOk base)
    (c_Sides_turned : Mf P w K mg base 5 C_Sides "turned" "Sides.turned" s_Sides_turned [] a_Sides_turned (p_turned K C_Sides C_NoOrder) f_Sides_turned g_Sides_turned)
    (c_Sides_told : Mf P w K mg base 1 C_Sides "told" "Sides.told" s_Sides_told [] a_Sides_told (p_told C_Sides) f_Sides_told g_Sides_told)
    (x_NoSides : Xc P w K mg base "NoSides" C_NoSides "found")
    (k_Sides : Kl_Sides K mg C_Sides) :
    FnG P w K mg base (L2.CX P w) 6 f fd a_Sides_orders_to (spOf K (p_orders_to K C_Sides C_NoSides)) := by
  refine VS.unbox ?_
  simp (disch := with_unfolding_all
    have kc_Sides := k_Sides.ins.cl
    have ka_Sides_three := k_Sides.a_three
    refine fn_val F sc_Sides_orders_to (fun ds S G Y h => ?_) (fun cdv A hgd outer s H E hr px tk po ds S G Y h => ?_)
    · obtain ⟨a, b, c, d, rfl, _⟩ := h
      rfl
    · obtain ⟨a, b, c, d, rfl, ha, hb, hc, h⟩ := h
      obtain ⟨aO, hO, rO⟩ := T.c_ORDERS
      refine ⟨_, (pss_cons (ps_if (pt_not (pt_val (pe_callB c_isiZ (by rfl) T.b_isinstance (by decide +kernel) (pa_cons (pv 1) (pa_cons (pe_gc (v := .ref C_Sides) (by rfl) ⟨_, k_Sides.at_, rfl⟩) pa_nil))))) (pss_one (ps_rz tk x_NoSides (hr.mono (by decide)) (by rfl) (pv 1)))
        pss_nil)
        (pss_one (ps_ret (pe_lc (own := [("order", 2)]) rfl sc_Sides_orders_to.nd (pi_tup (pe_gc (by rfl) hO)) (blkOk_by (own := [("order", 2)]) (N := n_Sides_orders_to) (sc := defScope s_Sides_orders_to) (by decide +kernel)) (fun _ _ _ _ _ => (pg_name (i := 2) sc_Sides_orders_to.nd rfl (Or.inl rfl))) (fun _ _ _ _ _ => (pts_one (pt_cmpR (kO (K := K) (r := rEqP) (op_eqP hr hsys)) (pe_mG0 (pe_mG (pv 0) c_Sides_turned.cl c_Sides_turned.me c_Sides_turned.fn hgd (hr.mono (by decide)) c_Sides_turned.b .nil VS.pass0 (pa_cons (pv 2) pa_nil)) c_Sides_told.cl c_Sides_told.me c_Sides_told.fn hgd (hr.mono (by decide)) c_Sides_told.b .nil VS.pass0) (pe_mG0 (pv 1) c_Sides_told.cl c_Sides_told.me c_Sides_told.fn hgd (hr.mono (by decide)) c_Sides_told.b .nil VS.pass0) (nomark _)))) (fun _ _ _ _ _ => (pv 2)))))), ?_⟩
      dsimp only [cxOf, List.map]
      show VX _ _ [_, _, _] _ _
      rcases h with ⟨x, y, z, rfl, q⟩ | ⟨t, ot, kt, qx⟩
      · walk_at "go"
        refine ve_cls ?_
        walk_at "go"
        refine rc_isiO (.i .v k_Sides.ins) k_Sides.ins.me ?_
        walk_at "go"
        refine ve_lc (vi_tup (ve_wr (rO · ·) ⟨_, rfl, ?_⟩))
        refine ⟨by show 6 ≤ 100000; decide, fun i acc S2 => S2 = S ∧ acc = ((perms.take i).filter fun p => decide (tnl a b c p = [x, y, z])).map fun p => .tup (p.map D.int), ⟨rfl, rfl⟩, ?_, ?_⟩
        · rintro i d acc S2 hd ⟨rfl, rfl⟩ hl
          rw [List.getElem?_map] at hd
          cases hp : perms[i]? with
          | none => rw [hp] at hd; cases hd
          | some p =>
            rw [hp] at hd
            cases hd
            have hm : p ∈ perms := List.mem_of_getElem? hp
            have htk : perms.take (i + 1) = perms.take i ++ [p] := by rw [List.take_succ, hp]; rfl
            walk_at "go"
            refine ve_mt0 (XOk.none (E := noE)) ?_
            refine ve_mt0 (XOk.none (E := noE)) ?_
            walk_at "go"
            refine ⟨_, .v, rfl, ?_⟩
            walk_at "go"
            refine turned_ok ha hb hc hm ?_
            obtain ⟨i1, j1, l1, rfl, _, _, _⟩ := perm_len hm
            refine ⟨_, .v, rfl, ?_⟩
            walk_at "go"
            refine ⟨_, _, _, rfl, ?_⟩
            refine ve_mt0 (XOk.none (E := noE)) ?_
            walk_at "go"
            refine ⟨_, .v, rfl, ?_⟩
            walk_at "go"
            refine ⟨_, _, _, rfl, ?_⟩
            refine rv_eqP .v .v rfl rfl rfl rfl ?_
            walk_at "go"
            have ee : PyData.eqv (pd (.tup [.int (tn a b c i1), .int (tn a b c j1), .int (tn a b c l1)])) (pd (.tup [.int x, .int y, .int z])) = decide (tnl a b c [i1, j1, l1] = [x, y, z]) := eqvL_ints (ns := tnl a b c [i1, j1, l1]) (ms := [x, y, z])
            rw [ee]
            refine ⟨fun h1 => ?_, fun h1 => ?_⟩
            · walk_at "go"
              refine ⟨rfl, ?_⟩
              rw [htk, List.filter_append, List.filter_cons, if_pos h1, List.map_append]
              rfl
            · refine ⟨rfl, ?_⟩
              rw [htk, List.filter_append, List.filter_cons, if_neg (by rw [h1]; decide), List.map_append]
              simp
        · rintro acc S2 ⟨rfl, rfl⟩ hl
          exact q
      · walk_at "go"
        refine ve_cls ?_
        walk_at "go"
        refine rc_isiO ot kt ?_
        walk_at "go"
        refine vx_raise ?_
        walk_at "go"
        exact qx) only [↓VS.box]
end
end LW
namespace LW
open PySem L2 C8 PySem.Spec PyProof.Rows VS
/-- whether a thing is Sides -/
inductive Sx (K : PySem.W.Frag) (S : Sto) (CS : Addr) : D → Bool → Prop
  | s (a b c : Int) : Sx K S CS (sd CS a b c) true
  | o {d : D} {t : Value} (h : OfC K S d t) (k : PySem.W.kitOne K t (.ref CS) = some false) : Sx K S CS d false
theorem Sx.yes {K : PySem.W.Frag} {S : Sto} {CS : Addr} {d : D} (h : Sx K S CS d true) : ∃ a b c, d = sd CS a b c := by
  cases h with
  | s a b c => exact ⟨a, b, c, rfl⟩
def fitB (l m : List Int) (sp : Int) : Bool := (l.zip m).all fun q => decide (q.1 + sp ≤ q.2)
end LW
namespace LW
open PySem L2 C8 PySem.Spec PyProof.Rows VS
/-! ### turning and ranking, plain -/
/-- two numbers the same but for their order -/
theorem perm2 {a b x y : Int} (h : [a, b].Perm [x, y]) : (x = a ∧ y = b) ∨ (x = b ∧ y = a) := by
  have hx : x ∈ [a, b] := h.mem_iff.mpr (List.mem_cons_self ..)
  simp only [List.mem_cons, List.not_mem_nil, or_false] at hx
  rcases hx with rfl | rfl
  · have := h.cons_inv
    exact .inl ⟨rfl, (List.singleton_perm_singleton.mp this).symm⟩
  · have := ((List.Perm.swap _ _ _).symm.trans h).cons_inv
    exact .inr ⟨rfl, (List.singleton_perm_singleton.mp this).symm⟩
theorem perm3 {a b c x y z : Int} (h : [a, b, c].Perm [x, y, z]) : ∃ p ∈ perms, [x, y, z] = tnl a b c p := by
  have hx : x ∈ [a, b, c] := h.mem_iff.mpr (List.mem_cons_self ..)
  simp only [List.mem_cons, List.not_mem_nil, or_false] at hx
  rcases hx with rfl | rfl | rfl
  · rcases perm2 h.cons_inv with ⟨rfl, rfl⟩ | ⟨rfl, rfl⟩
    · exact ⟨[0, 1, 2], by decide, rfl⟩
    · exact ⟨[0, 2, 1], by decide, rfl⟩
  · have h2 : [a, c].Perm [y, z] := ((List.Perm.swap a x [c]).trans h).cons_inv
    rcases perm2 h2 with ⟨rfl, rfl⟩ | ⟨rfl, rfl⟩
    · exact ⟨[1, 0, 2], by decide, rfl⟩
    · exact ⟨[1, 2, 0], by decide, rfl⟩
  · have h1 : [x, a, b].Perm [a, b, x] := List.perm_append_comm (l₁ := [x]) (l₂ := [a, b])
    have h2 : [a, b].Perm [y, z] := (h1.trans h).cons_inv
    rcases perm2 h2 with ⟨rfl, rfl⟩ | ⟨rfl, rfl⟩
    · exact ⟨[2, 0, 1], by decide, rfl⟩
    · exact ⟨[2, 1, 0], by decide, rfl⟩
theorem up3 (a b c : Int) : ∃ u v w, up [a, b, c] = [u, v, w] ∧ u ≤ v ∧ v ≤ w ∧ ∃ p ∈ perms, [a, b, c] = tnl u v w p := by
  have hp := up_perm [a, b, c]
  have hs := up_sorted [a, b, c]
  have hl := up_len [a, b, c]
  match e : up [a, b, c], hl, hs, hp with
  | [u, v, w], _, hs, hp =>
    refine ⟨u, v, w, rfl, ?_, ?_, perm3 hp⟩
    · exact (List.pairwise_cons.mp hs).1 v (by simp)
    · exact (List.pairwise_cons.mp (List.pairwise_cons.mp hs).2).1 w (by simp)
def go (a b c x y z sp : Int) : Bool := perms.any fun p => fitB (tnl a b c p) [x, y, z] sp
/-- rank by rank -/
def rk (l m : List Int) (sp : Int) : Bool := match l, m with
  | [u, v, w], [x, y, z] => decide (u + sp ≤ x) && (decide (v + sp ≤ y) && decide (w + sp ≤ z))
  | _, _ => false
end LW
namespace LW
open PySem L2 C8 PySem.Spec PyProof.Rows VS
/-- a purse: after n draws at most -/
def Pu (S : Sto) (p : Addr) (n : Int) : Prop := ∃ a b c : Int, S p = some (.lst [.int a, .int b, .int c]) ∧ 0 ≤ b ∧ b < 2147483648 ∧ 0 ≤ c ∧ c ≤ n
def Off (p : Addr) (S S' : Sto) : Prop := ∀ q, q ≠ p → S' q = S q
theorem Off.refl {p : Addr} {S : Sto} : Off p S S := fun _ _ => rfl
theorem Off.trans {p : Addr} {S S' S'' : Sto} (a : Off p S S') (b : Off p S' S'') : Off p S S'' := fun q h => (b q h).trans (a q h)
theorem Off.put {p : Addr} {S : Sto} {d : D} : Off p S (put S p d) := fun _ h => put_ne h
theorem Off.ex1 {p : Addr} {S S' : Sto} (o : Off p S S') : Ex1 p S S' := fun q d n h => (o q n).trans h
theorem Pu.mono {S : Sto} {p : Addr} {n m : Int} (h : Pu S p n) (l : n ≤ m) : Pu S p m := by
  obtain ⟨a, b, c, h1, h2, h3, h4, h5⟩ := h
  exact ⟨a, b, c, h1, h2, h3, h4, by omega⟩
theorem Pu.off {S S' : Sto} {p q : Addr} {n : Int} (h : Pu S p n) (o : Off q S S') (ne : p ≠ q) : Pu S' p n := by
  obtain ⟨a, b, c, h1, h2⟩ := h
  exact ⟨a, b, c, (o p ne).trans h1, h2⟩
def p__law_take : Pt := fun ds S G _ => ∃ (p : Addr) (n m : Int), ds = [.ref p, .int m] ∧ Pu S p n ∧ n < 1000000 ∧ 0 < m ∧ m < 2 ^ 64 ∧ ∀ (d : Int) (S' : Sto), 0 ≤ d → d < m → Pu S' p (n + 1) → Off p S S' → G (.int d) S'
def p__law_cell : Pt := fun ds S G _ => ∃ (ns : List Int) (k : Nat), ds = [.rol (ns.map .int), .int k] ∧ k < 1000 ∧ ∀ z : Int, G (.int z) S
def p__law_purse : Pt := fun ds S G _ => ∃ z : Int, ds = [.int z] ∧ ∀ (p : Addr) (S' : Sto), S p = none → Pu S' p 0 → Off p S S' → G (.ref p) S'
section
variable {P : Program} {w : World} {K : PySem.W.Frag} {mg : Str → Option Value} {base : Heap}
theorem ok__law_cell {f : Addr} {fd : FuncData} {C_Measure C_Sides C_Parcel C_Heap C_NoNumber C_NoSize C_NoMeasure C_NoSide C_NoOrder C_NoSides : Addr}
    (F : Fd K "_law_cell" "_law_cell" s__law_cell [] f fd) (T : Tx K mg) (hsys : SysOk base) :
    FnG P w K mg base (L2.CX P w) 1 f fd a__law_cell (spOf K p__law_cell) := by
  refine VS.unbox ?_
  simp (disch := with_unfolding_all
    refine fn_val F sc__law_cell (fun ds S G Y h => ?_) (fun cdv A hgd outer s H E hr px tk po ds S G Y h => ?_)
    · obtain ⟨ns, k, rfl, _⟩ := h
      rfl
    · obtain ⟨ns, k, rfl, hk, q⟩ := h
      refine ⟨_, (pss_cons (ps_if (pt_cmpR op_lt (pv 1) (pe_callB c_len (by rfl) T.b_len (by decide +kernel) (pa_cons (pv 0) pa_nil)) (nomark _)) (pss_one (ps_ret (pe_ix ix_list (pv 0) (pv 1) (fun _ _ => rfl))))
        pss_nil)
        (pss_one (ps_ret (pe_op op_add (pe_op op_mulW pe_int (pv 1)) pe_int)))), ?_⟩
      (try dsimp only [cxOf, List.map])
      show VX _ _ [_, _] _ _
      walk_at "go"
      refine rc_lenQ (.l .r) ?_
      walk_at "go"
      refine br (fun h1 => ?_) (fun h1 => ?_)
      · walk_at "go"
        have hl : k < ns.length := by
          rw [List.length_map] at h1
          omega
        refine rv_ixL .r (atI_nat (j := k) (by rw [List.getElem?_map, List.getElem?_eq_getElem hl]; rfl)) ?_
        exact q _
      · walk_at "go"
        exact q _) only [↓VS.box]
theorem ok__law_purse {f : Addr} {fd : FuncData} {C_Measure C_Sides C_Parcel C_Heap C_NoNumber C_NoSize C_NoMeasure C_NoSide C_NoOrder C_NoSides : Addr}
    (F : Fd K "_law_purse" "_law_purse" s__law_purse [] f fd) (T : Tx K mg) (hsys : SysOk base) :
    FnG P w K mg base (L2.CX P w) 1 f fd a__law_purse (spOf K p__law_purse) := by
  refine VS.unbox ?_
  simp (disch := with_unfolding_all
    refine fn_val F sc__law_purse (fun ds S G Y h => ?_) (fun cdv A hgd outer s H E hr px tk po ds S G Y h => ?_)
    · obtain ⟨z, rfl, _⟩ := h
      rfl
    · obtain ⟨z, rfl, q⟩ := h
      refine ⟨_, (pss_one (ps_ret (pe_lst (pa_cons (pe_callB (c_max2 rfl) (by rfl) T.b_max (by decide +kernel) (pa_cons pe_int (pa_cons (pe_op op_sub (pv 0) (pe_op op_pow pe_int pe_int)) pa_nil))) (pa_cons (pe_op op_mod (pv 0) pe_int) (pa_cons pe_int pa_nil)))))), ?_⟩
      show VX _ _ [_] _ _
      walk_at "go"
      refine ve_lstc ?_
      walk_at "go"
      refine ⟨(by show 3 ≤ sizeLine; decide), fun p hp => q p _ hp ⟨_, _, _, put_same, Int.emod_nonneg _ (by decide), ?_, Int.le_refl _, Int.le_refl _⟩ .put⟩
      exact Int.lt_trans (Int.emod_lt_of_pos _ (by decide)) (by decide)) only [↓VS.box]
theorem ok__law_take {f : Addr} {fd : FuncData} {C_Measure C_Sides C_Parcel C_Heap C_NoNumber C_NoSize C_NoMeasure C_NoSide C_NoOrder C_NoSides : Addr}
    (F : Fd K "_law_take" "_law_take" s__law_take [] f fd) (T : Tx K mg) (hsys : SysOk base) :
    FnG P w K mg base (L2.CX P w) 1 f fd a__law_take (spOf K p__law_take) := by
  refine VS.unbox ?_
  simp (disch := with_unfolding_all
    refine fn_val F sc__law_take (fun ds S G Y h => ?_) (fun cdv A hgd outer s H E hr px tk po ds S G Y h => ?_)
    · obtain ⟨p, n, m, rfl, _⟩ := h
      rfl
    · obtain ⟨p, n, m, rfl, ⟨a, b, c, hp, b0, b1, c0, c1⟩, hn, m0, m1, q⟩ := h
      refine ⟨_, (pss_cons (ps_if (pt_cmpR op_gt (pe_ix ix_list (pv 0) pe_int (fun _ _ => rfl)) pe_int (nomark _)) (pss_cons (ps_set (i := 2) sc__law_take.nd rfl (Or.inl rfl) (pe_op op_mod (pe_ix ix_list (pv 0) pe_int (fun _ _ => rfl)) (pv 1)))
        (pss_cons (ps_asg (pe_op op_fdivW (pe_ix ix_list (pv 0) pe_int (fun _ _ => rfl)) (pv 1)) (pg_sub (pv 0) pe_int set_list))
        (pss_one (ps_ret (pv 2)))))
        pss_nil)
        (pss_cons (ps_asg (pe_op op_add (pe_ix ix_list (pv 0) pe_int (fun _ _ => rfl)) pe_int) (pg_sub (pv 0) pe_int set_list))
        (pss_cons (ps_set (i := 3) sc__law_take.nd rfl (Or.inl rfl) (pe_op op_mod (pe_op op_pow (pe_op op_add (pe_op op_add (pe_ix ix_list (pv 0) pe_int (fun _ _ => rfl)) (pe_op op_mulW pe_int (pe_ix ix_list (pv 0) pe_int (fun _ _ => rfl)))) pe_int) pe_int) pe_int))
        (pss_cons (ps_set (i := 4) sc__law_take.nd rfl (Or.inl rfl) (pe_op op_mod (pe_op op_pow (pe_op op_add (pe_op op_mulW (pe_ix ix_list (pv 0) pe_int (fun _ _ => rfl)) (pe_ix ix_list (pv 0) pe_int (fun _ _ => rfl))) pe_int) pe_int) pe_int))
        (pss_one (ps_ret (pe_op op_mod (pe_op op_fdivW (pe_op op_add (pe_op op_mulW (pv 3) pe_int) (pv 4)) pe_int) (pv 1)))))))), ?_⟩
      (try dsimp only [cxOf, List.map])
      show VX _ _ [_, _, _, _, _] _ _
      walk_at "go"
      refine br (fun h1 => ?_) (fun h1 => ?_)
      · walk_at "go"
        refine ⟨_, 0, _, rfl, hp, rfl, ?_⟩
        walk_at "go"
        exact q _ _ (Int.emod_nonneg _ (by omega)) (Int.emod_lt_of_pos _ m0) ⟨_, _, _, put_same, b0, b1, c0, by omega⟩ .put
      · walk_at "go"
        refine ⟨_, 2, _, rfl, hp, rfl, ?_⟩
        have g1 : 0 ≤ b * (c + 1) := Int.mul_nonneg b0 (by omega)
        have g2 : b * (c + 1) ≤ 2147483648 * 1000001 := Int.mul_le_mul (by omega) (by omega) (by omega) (by decide)
        walk_at "go"
        exact q _ _ (Int.emod_nonneg _ (by omega)) (Int.emod_lt_of_pos _ m0) ⟨_, _, _, put_same, b0, b1, by omega, by omega⟩ .put) only [↓VS.box]
end
end LW
namespace LW
open PySem L2 C8 PySem.Spec PyProof.Rows VS
/-! ### the purse, further -/
theorem Pu.ne {S : Sto} {p l : Addr} {n : Int} (h : Pu S p n) (hl : S l = none) : p ≠ l := by
  obtain ⟨a, b, c, e, _⟩ := h
  exact ne_at e hl
theorem Pu.put {S : Sto} {p l : Addr} {n : Int} {d : D} (h : Pu S p n) (hl : S l = none) : Pu (put S l d) p n := by
  have ne := h.ne hl
  obtain ⟨a, b, c, e, r⟩ := h
  exact ⟨a, b, c, by rw [put_ne ne]; exact e, r⟩
theorem Pu.wr {S : Sto} {p l : Addr} {n : Int} {d : D} (h : Pu S p n) (ne : p ≠ l) : Pu (VS.put S l d) p n := by
  obtain ⟨a, b, c, e, r⟩ := h
  exact ⟨a, b, c, by rw [put_ne ne]; exact e, r⟩
theorem _root_.VS.Ex1.new {p l : Addr} {S S' : Sto} {d : D} (x : Ex1 p S S') (hl : S' l = none) : Ex1 p S (put S' l d) := fun q e n h => by
  have h' := x q e n h
  rw [put_ne]
  · exact h'
  · intro z; subst z; rw [hl] at h'; cases h'
theorem take_ok {S : Sto} {p : Addr} {n m : Int} {G : D → Sto → Prop} {Y : Addr → List (Str × D) → Sto → Prop} (h : Pu S p n) (hn : n < 1000000) (h0 : 0 < m) (h1 : m < 2 ^ 64)
    (q : ∀ (d : Int) (S' : Sto), 0 ≤ d → d < m → Pu S' p (n + 1) → Off p S S' → G (.int d) S') : p__law_take [.ref p, .int m] S G Y := ⟨p, n, m, rfl, h, hn, h0, h1, q⟩
theorem cell_ok {ns : List Int} {k : Nat} {S : Sto} {G : D → Sto → Prop} {Y : Addr → List (Str × D) → Sto → Prop} (hk : k < 1000) (q : ∀ z : Int, G (.int z) S) : p__law_cell [.rol (ns.map .int), .int k] S G Y := ⟨ns, k, rfl, hk, q⟩
theorem purse_ok {z : Int} {S : Sto} {G : D → Sto → Prop} {Y : Addr → List (Str × D) → Sto → Prop} (q : ∀ (p : Addr) (S' : Sto), S p = none → Pu S' p 0 → Off p S S' → G (.ref p) S') : p__law_purse [.int z] S G Y := ⟨z, rfl, q⟩
end LW
open LW
local macro_rules | `(tactic| walk_at "gp") => `(tactic| ((with_reducible apply take_ok); (· assumption); (· first | decide | omega); (· first | decide | omega); (· first | decide | omega)))
local macro_rules | `(tactic| walk_at "gp") => `(tactic| ((with_reducible apply cell_ok); (· omega); intro cell))
local macro_rules | `(tactic| walk_at "gp") => `(tactic| with_reducible refine purse_ok ?_)
namespace LW
open PySem L2 C8 PySem.Spec PyProof.Rows VS
/-- three sides as a list -/
def li (a b c : Int) : D := .lst [.int a, .int b, .int c]
def p__law_three : Pt := fun ds S G _ => ∃ (p : Addr) (n : Int), ds = [.ref p] ∧ Pu S p n ∧ n < 900000 ∧ ∀ a b c S', In1 a → In1 b → In1 c → Pu S' p (n + 20) → Ex1 p S S' → G (li a b c) S'
def p__law_turned : Pt := fun ds S G _ => ∃ a b c p, ds = [li a b c, .tup (p.map D.int)] ∧ p ∈ perms ∧ G (.lst ((tnl a b c p).map D.int)) S
def ordsD : List D := perms.map fun p => .tup (p.map D.int)
def p__law_orders : Pt := fun ds S G _ => ds = [] ∧ G (.lst ordsD) S
end LW
namespace LW
open PySem L2 C8 PySem.Spec PyProof.Rows VS
/-! ### data as whole numbers, orders, Sides -/
def stB (d : D) (z : Str) : Bool := match d with
  | .str y => decide (y = z)
  | _ => false
theorem stB_eqv {d : D} {z : Str} (h : isP d = true) : PyData.eqv (pd d) (.str z) = stB d z := by
  cases d with
  | str y => show (y == z) = decide (y = z); rw [Bool.eq_iff_iff, beq_iff_eq, decide_eq_true_eq]
  | non => rfl
  | bl b => rfl
  | int i => rfl
  | lst xs => rfl
  | tup xs => rfl
  | dK xs => rfl
  | _ => cases h
end LW
namespace LW
open PySem L2 C8 PySem.Spec PyProof.Rows VS
/-! ### promises met at once -/
theorem told_ok {CS : Addr} {a b c : Int} {S : Sto} {G : D → Sto → Prop} {Y : Addr → List (Str × D) → Sto → Prop} (q : G (.tup [.int a, .int b, .int c]) S) : p_told CS [sd CS a b c] S G Y := ⟨a, b, c, rfl, q⟩
theorem ranked_ok {CS : Addr} {a b c : Int} {S : Sto} {G : D → Sto → Prop} {Y : Addr → List (Str × D) → Sto → Prop} (q : G (.tup ((dn [a, b, c]).map D.int)) S) : p_ranked CS [sd CS a b c] S G Y := ⟨a, b, c, rfl, q⟩
/-- Sides made of good numbers, by value -/
theorem ve_mkSd {c : VS.Ctx} {ρ : Rho} {S : Sto} {F : D → Sto → Prop} {t : TA} {E : L2.St → XK} {CS CX : Addr}
    (h : VA c t ρ S fun ds S1 => ∃ a b d, ds = [.int a, .int b, .int d] ∧ In1 a ∧ In1 b ∧ In1 d ∧ F (sd CS a b d) S1) : VE c (tMakeE CS (spOf c.K (p_Sides_init c.K CS CX)) [] E t) ρ S F :=
  ve_mk0 XOk.none (h.imp fun ds S1 ⟨a, b, d, e, ha, hb, hd, q⟩ y hy => by
    subst e
    exact init_ok ha hb hd hy ⟨rfl, y, _, rfl, put_same, nofun, by rw [del_put2 hy]; exact q⟩)
theorem ex_sd {a b d : Int} {G : Int → Int → Int → Prop} (ha : In1 a) (hb : In1 b) (hd : In1 d) (q : G a b d) : ∃ a' b' d', ([.int a, .int b, .int d] : List D) = [.int a', .int b', .int d'] ∧ In1 a' ∧ In1 b' ∧ In1 d' ∧ G a' b' d' := ⟨a, b, d, rfl, ha, hb, hd, q⟩
theorem lturn_ok {a b c : Int} {o : List Int} {S : Sto} {G : D → Sto → Prop} {Y : Addr → List (Str × D) → Sto → Prop} (ho : o ∈ perms) (q : G (.lst ((tnl a b c o).map D.int)) S) : p__law_turned [li a b c, .tup (o.map D.int)] S G Y := ⟨a, b, c, o, rfl, ho, q⟩
theorem lords_ok {S : Sto} {G : D → Sto → Prop} {Y : Addr → List (Str × D) → Sto → Prop} (q : G (.lst ordsD) S) : p__law_orders [] S G Y := ⟨rfl, q⟩
theorem lthree_ok {S : Sto} {p : Addr} {n : Int} {G : D → Sto → Prop} {Y : Addr → List (Str × D) → Sto → Prop} (h : Pu S p n) (hn : n < 900000) (q : ∀ a b c S', In1 a → In1 b → In1 c → Pu S' p (n + 20) → Ex1 p S S' → G (li a b c) S') : p__law_three [.ref p] S G Y := ⟨p, n, rfl, h, hn, q⟩
theorem li_at {a b c : Int} : atI [D.int a, .int b, .int c] 0 = some (.int a) ∧ atI [D.int a, .int b, .int c] 1 = some (.int b) ∧ atI [D.int a, .int b, .int c] 2 = some (.int c) := ⟨rfl, rfl, rfl⟩
section
variable {c : VS.Ctx} {S : Sto} {F : D → Sto → Prop}
theorem isi_sd {mg : Str → Option Value} {CS : Addr} {a b d : Int} (k : Kl_Sides c.K mg CS) (q : F (.bl true) S) : RC c (rIsiZ c.K) [sd CS a b d, .ref CS] S F := rc_isiO (.i .v k.ins) k.ins.me q
end
end LW
open LW
local macro_rules | `(tactic| walk_at "gp") => `(tactic| with_reducible refine told_ok ?_)
local macro_rules | `(tactic| walk_at "gp") => `(tactic| with_reducible refine ranked_ok ?_)
local macro_rules | `(tactic| walk_at "gp") => `(tactic| with_reducible refine ve_mkSd ?_)
local macro_rules | `(tactic| walk_at "gp") => `(tactic| ((with_reducible refine ex_sd ?_ ?_ ?_ ?_); (· first | assumption | (unfold In1 at *; omega)); (· first | assumption | (unfold In1 at *; omega)); (· first | assumption | (unfold In1 at *; omega))))
local macro_rules | `(tactic| walk_at "gp") => `(tactic| ((with_reducible refine lturn_ok ?_ ?_); (· assumption)))
local macro_rules | `(tactic| walk_at "gp") => `(tactic| with_reducible refine lords_ok ?_)
local macro_rules | `(tactic| walk_at "gp") => `(tactic| ((with_reducible apply lthree_ok); (· assumption); (· first | decide | omega)))
local macro_rules | `(tactic| walk_at "gp") => `(tactic| ((with_reducible apply isi_sd); (· assumption)))
local macro_rules | `(tactic| walk_at "gp") => `(tactic| ((with_reducible apply rv_ixL); (· exact .v); (· with_reducible exact li_at.1)))
local macro_rules | `(tactic| walk_at "gp") => `(tactic| ((with_reducible apply rv_ixL); (· exact .v); (· with_reducible exact li_at.2.1)))
local macro_rules | `(tactic| walk_at "gp") => `(tactic| ((with_reducible apply rv_ixL); (· exact .v); (· with_reducible exact li_at.2.2)))
namespace LW
open PySem L2 C8 PySem.Spec PyProof.Rows VS
end LW
namespace LW
open PySem L2 C8 PySem.Spec PyProof.Rows VS
end LW
namespace LW
open PySem L2 C8 PySem.Spec PyProof.Rows VS
/-! ### data that may be shown and compared -/
structure Ok (d : D) (n k : Nat) : Prop where
  sh : Sh d n k
  s : SeqAt.shaped (pd d) = true
  l : ∀ zs, d = .tup zs → zs.length ≤ 1000
theorem Ok.mono {d : D} {n m k j : Nat} (h : Ok d n k) (a : n ≤ m) (b : k ≤ j) : Ok d m j := ⟨h.sh.mono a b, h.s, h.l⟩
theorem ok_all {n k : Nat} : ∀ {ys : List D}, (∀ y ∈ ys, Ok y n k) → ShL ys (ys.length * (n + 2)) k ∧ PyData.canLayAll0 (pdL ys) = true ∧ PyData.depthAll (pdL ys) ≤ k
  | [], _ => ⟨ShL.nil.mono (Nat.zero_le _) (Nat.zero_le _), rfl, Nat.zero_le _⟩
  | y :: ys, h => by
    obtain ⟨a, b, c⟩ := ok_all (ys := ys) fun z hz => h z (List.mem_cons_of_mem _ hz)
    have hy := h y (List.mem_cons_self ..)
    have s' : ((pd y).canLay0 && decide ((pd y).depth ≤ 64)) = true := hy.s
    rw [Bool.and_eq_true] at s'
    refine ⟨(ShL.cons hy.sh a).mono (by rw [List.length_cons, Nat.succ_mul]; omega) (Nat.max_le.mpr ⟨Nat.le_refl _, Nat.le_refl _⟩), ?_, Nat.max_le.mpr ⟨hy.sh.d, c⟩⟩
    show ((pd y).canLay0 && PyData.canLayAll0 (pdL ys)) = true
    rw [s'.1, b]; rfl
theorem Ok.tup {ys : List D} {n k : Nat} (m : Nat) (h : ∀ y ∈ ys, Ok y n k) (hl : ys.length ≤ m) (hm : m ≤ 1000) (hk : k + 1 ≤ 64) : Ok (.tup ys) (m * (n + 2) + 3) (k + 1) := by
  obtain ⟨a, b, c⟩ := ok_all h
  refine ⟨Sh.tup (a.mono (Nat.mul_le_mul_right _ hl) (Nat.le_refl _)), ?_, fun zs e => by injection e with e; rw [← e]; omega⟩
  show (PyData.canLayAll0 (pdL ys) && decide (PyData.depthAll (pdL ys) + 1 ≤ 64)) = true
  rw [b, decide_eq_true (by omega)]; rfl
theorem Ok.lst {ys : List D} {n k : Nat} (m : Nat) (h : ∀ y ∈ ys, Ok y n k) (hl : ys.length ≤ m) (hk : k + 1 ≤ 64) : Ok (.lst ys) (m * (n + 2) + 2) (k + 1) := by
  obtain ⟨a, b, c⟩ := ok_all h
  refine ⟨Sh.lst (a.mono (Nat.mul_le_mul_right _ hl) (Nat.le_refl _)), ?_, nofun⟩
  show (PyData.canLayAll0 (pdL ys) && decide (PyData.depthAll (pdL ys) + 1 ≤ 64)) = true
  rw [b, decide_eq_true (by omega)]; rfl
theorem ok_int {i : Int} (h : -(2 ^ 60) ≤ i ∧ i ≤ 2 ^ 60) : Ok (.int i) 200 2 := ⟨(Sh.int (k := 64) (by omega) (by decide) (by decide)).mono (by decide) (by decide), rfl, nofun⟩
theorem all3 {Q : D → Prop} {a b c : D} (h1 : Q a) (h2 : Q b) (h3 : Q c) : ∀ y ∈ [a, b, c], Q y := fun y hy => by
  simp only [List.mem_cons, List.not_mem_nil, or_false] at hy
  rcases hy with rfl | rfl | rfl <;> assumption
end LW
namespace LW
open PySem L2 C8 PySem.Spec PyProof.Rows VS
end LW
namespace LW
open PySem L2 C8 PySem.Spec PyProof.Rows VS
/-! ### names -/
def lcN (n : Nat) : Bool := decide (n ∈ ("abcdefghijklmnopqrstuvwxyz" : Str).cps.toList)
def lcs (x : Str) : Bool := x.cps.toList.all lcN
def nmB (x : Str) : Bool := (decide (1 ≤ (x.length : Int)) && decide ((x.length : Int) ≤ 8)) && lcs x
def p_is_name (K : PySem.W.Frag) : Pt := fun ds S G _ => ∃ d, ds = [d] ∧ ((∃ x : Str, d = .str x ∧ x.length ≤ 100000 ∧ G (.bl (nmB x)) S) ∨ ∃ t, OfC K S d t ∧ PySem.W.kitOne K t (.type "str") = some false ∧ G (.bl false) S)
theorem lcN_iff {n : Nat} : lcN n = true ↔ 97 ≤ n ∧ n ≤ 122 := by
  unfold lcN
  rw [decide_eq_true_eq]
  have e : ("abcdefghijklmnopqrstuvwxyz" : Str).cps.toList = [97, 98, 99, 100, 101, 102, 103, 104, 105, 106, 107, 108, 109, 110, 111, 112, 113, 114, 115, 116, 117, 118, 119, 120, 121, 122] := by decide +kernel
  rw [e]
  simp only [List.mem_cons, List.not_mem_nil, or_false]
  omega
theorem sum_le {n : Nat} : ∀ {ys : List Str}, (∀ y ∈ ys, y.length ≤ n) → (ys.map (·.length)).sum ≤ n * ys.length
  | [], _ => Nat.zero_le _
  | y :: ys, h => by
    have a := h y (.head _)
    have b := sum_le fun z hz => h z (.tail _ hz)
    rw [List.map_cons, List.sum_cons, List.length_cons, Nat.mul_succ]
    omega
theorem joinL_ok {s : List Nat} {n m : Nat} (hs : s.length ≤ m ∧ ∀ c ∈ s, c < 128) : ∀ {L : List (List Nat)}, (∀ l ∈ L, l.length ≤ n ∧ ∀ c ∈ l, c < 128) → (TL.joinL s L).length ≤ (n + m) * L.length ∧ ∀ c ∈ TL.joinL s L, c < 128
  | [], _ => ⟨Nat.zero_le _, fun c hc => by cases hc⟩
  | [l], h => by
    have a := h l (.head _)
    refine ⟨?_, fun c hc => a.2 c (by simpa [TL.joinL] using hc)⟩
    show (TL.joinL s [l]).length ≤ (n + m) * 1
    have : TL.joinL s [l] = l := by simp [TL.joinL]
    rw [this]
    omega
  | l :: k :: L, h => by
    have a := h l (.head _)
    have b := joinL_ok hs (L := k :: L) fun z hz => h z (.tail _ hz)
    have e : TL.joinL s (l :: k :: L) = l ++ (s ++ TL.joinL s (k :: L)) := rfl
    rw [e]
    refine ⟨?_, fun c hc => ?_⟩
    · rw [List.length_append, List.length_append, List.length_cons, Nat.mul_succ]
      omega
    · rcases List.mem_append.mp hc with hc | hc
      · exact a.2 c hc
      · exact (List.mem_append.mp hc).elim (hs.2 c) (b.2 c)
theorem _root_.VS.Asc.joinS {n m : Nat} {s : Str} {ys : List Str} (hs : Asc m s) (h : ∀ y ∈ ys, Asc n y) : Asc ((n + m) * ys.length) (Txt.join s ys) := by
  have e : (Txt.join s ys).cps.toList = TL.joinL (TL.tl s) (ys.map TL.tl) := (congrArg TL.tl (TL.join_eq s ys)).trans (TL.tl_join s ys)
  have g := joinL_ok (s := TL.tl s) (n := n) (m := m) ⟨by have := hs.1; rw [← str_len] at this; exact this, hs.2⟩ (L := ys.map TL.tl) fun l hl => by
    obtain ⟨y, hy, rfl⟩ := List.mem_map.mp hl
    exact ⟨by have := (h y hy).1; rw [← str_len] at this; exact this, (h y hy).2⟩
  rw [List.length_map] at g
  refine ⟨?_, fun c hc => g.2 c (by rw [← e]; exact hc)⟩
  rw [← str_len, e]
  exact g.1
/-- a word: small letters alone -/
def Lw (n : Nat) (z : Str) : Prop := z.length ≤ n ∧ ∀ c ∈ z.cps.toList, lcN c = true
theorem Lw.asc {n : Nat} {z : Str} (h : Lw n z) : Asc n z := ⟨h.1, fun c hc => by have := (lcN_iff.mp (h.2 c hc)).2; omega⟩
theorem Lw.mono {n m : Nat} {z : Str} (h : Lw n z) (l : n ≤ m) : Lw m z := ⟨Nat.le_trans h.1 l, h.2⟩
theorem Lw.add {n m : Nat} {x y : Str} (h : Lw n x) (k : Lw m y) : Lw (n + m) (x ++ y) := by
  refine ⟨by rw [len_add]; exact Nat.add_le_add h.1 k.1, fun c hc => ?_⟩
  rw [tl_add] at hc
  exact (List.mem_append.mp hc).elim (h.2 c) (k.2 c)
theorem Lw.cut {n : Nat} {x : Str} (h : Lw n x) (lo hi : Option Int) : Lw n (cutS x lo hi) := by
  refine ⟨Nat.le_trans (cutS_length x lo hi) h.1, fun c hc => h.2 c ?_⟩
  have hc' : c ∈ (x.cps.toList.drop (HT.sIx x.length 0 lo)).take (HT.sIx x.length x.length hi - HT.sIx x.length 0 lo) := hc
  exact List.mem_of_mem_drop (List.mem_of_mem_take hc')
theorem Lw.join0 {n : Nat} {ys : List Str} (h : ∀ y ∈ ys, Lw 1 y) (hl : ys.length ≤ n) : Lw n (Txt.join ("" : Str) ys) := by
  refine ⟨(Asc.join0 (fun y hy => (h y hy).asc) hl).1, fun c hc => ?_⟩
  rw [tl_join0] at hc
  obtain ⟨l, hl1, hl2⟩ := List.mem_flatten.mp hc
  obtain ⟨y, hy, rfl⟩ := List.mem_map.mp hl1
  exact (h y hy).2 c hl2
theorem Lw.one {n : Nat} (h : lcN n = true) : Lw 1 ⟨#[n]⟩ := ⟨Nat.le_refl _, fun c hc => by
  have : c = n := by simpa using hc
  rw [this]; exact h⟩
theorem Lw.lit {n : Nat} {z : Str} (h : (decide (z.length ≤ n) && z.cps.toList.all lcN) = true) : Lw n z := by
  rw [Bool.and_eq_true, decide_eq_true_eq, List.all_eq_true] at h
  exact ⟨h.1, fun c hc => h.2 c hc⟩
theorem join0_len {ys : List Str} {n : Nat} (h : ∀ y ∈ ys, y.length = 1) (hl : ys.length = n) : (Txt.join ("" : Str) ys).length = n := by
  rw [← str_len, tl_join0, List.length_flatten, List.map_map, ← hl]
  clear hl
  induction ys with
  | nil => rfl
  | cons y ys ih =>
    rw [List.map_cons, List.sum_cons, ih fun z hz => h z (.tail _ hz), List.length_cons]
    have a := h y (.head _)
    rw [← str_len] at a
    show y.cps.toList.length + _ = _
    omega
/-- a good name -/
def Nm (z : Str) : Prop := Lw 8 z ∧ 1 ≤ z.length
theorem Nm.ok {z : Str} (h : Nm z) : nmB z = true := by
  unfold nmB lcs
  rw [decide_eq_true (by have := h.2; omega), decide_eq_true (by have := h.1.1; omega), List.all_eq_true.mpr h.1.2]
  rfl
theorem cut_len (z : Str) (k : Nat) : (cutS z none (some (k : Int))).length = min k z.length := by
  rw [← str_len]
  show ((z.cps.toList.drop 0).take (HT.sIx z.length z.length (some (k : Int)) - 0)).length = _
  rw [HT.sIx_nat, List.length_take, List.drop_zero, str_len]
  omega
theorem cut_lenR (z : Str) (k : Nat) : (cutS z (some (k : Int)) none).length = z.length - min k z.length := by
  rw [← str_len]
  show ((z.cps.toList.drop (HT.sIx z.length 0 (some (k : Int)))).take (z.length - HT.sIx z.length 0 (some (k : Int)))).length = _
  rw [HT.sIx_nat, List.length_take, List.length_drop, str_len]
  omega
theorem lett_at {i : Int} (h0 : 0 ≤ i) (h1 : i < 26) : ∃ n, atI ("abcdefghijklmnopqrstuvwxyz" : Str).cps.toList i = some n ∧ lcN n = true := by
  obtain ⟨n, hn, e⟩ := atI_mem (xs := ("abcdefghijklmnopqrstuvwxyz" : Str).cps.toList) h0 (by rw [show ("abcdefghijklmnopqrstuvwxyz" : Str).cps.toList.length = 26 from by decide +kernel]; exact h1)
  exact ⟨n, e, decide_eq_true hn⟩
def lcD : D → D
  | .str y => .bl (lcN (y.cps.toList.headD 0))
  | _ => .non
theorem lcD_signs (x : Str) : (signsD x).map lcD = (x.cps.toList.map lcN).map D.bl := by
  unfold signsD
  rw [List.map_map, List.map_map]
  rfl
theorem lcs_all (x : Str) : (x.cps.toList.map lcN).all id = lcs x := by
  unfold lcs
  rw [List.all_map]
  rfl
theorem name_ok {K : PySem.W.Frag} {x : Str} {S : Sto} {G : D → Sto → Prop} {Y : Addr → List (Str × D) → Sto → Prop} (h : nmB x = true) (hl : x.length ≤ 100000) (q : G (.bl true) S) : p_is_name K [.str x] S G Y :=
  ⟨_, rfl, .inl ⟨x, rfl, hl, by rw [h]; exact q⟩⟩
section
variable {P : Program} {w : World} {K : PySem.W.Frag} {mg : Str → Option Value} {base : Heap}
theorem ok_is_name {f : Addr} {fd : FuncData} {C_Measure C_Sides C_Parcel C_Heap C_NoNumber C_NoSize C_NoMeasure C_NoSide C_NoOrder C_NoSides : Addr}
    (F : Fd K "is_name" "is_name" s_is_name [] f fd) (T : Tx K mg) (hsys : SysOk base) :
    FnG P w K mg base (L2.CX P w) 1 f fd a_is_name (spOf K (p_is_name K)) := by
  refine VS.unbox ?_
  simp (disch := with_unfolding_all
    refine fn_val F sc_is_name (fun ds S G Y h => ?_) (fun cdv A hgd outer s H E hr px tk po ds S G Y h => ?_)
    · obtain ⟨d, rfl, _⟩ := h
      rfl
    · obtain ⟨d, rfl, h⟩ := h
      refine ⟨_, (pss_cons (ps_if (PW.pt (pw_or (pt_not (pt_val (pe_callB c_isiZ (by rfl) T.b_isinstance (by decide +kernel) (pa_cons (pv 0) (pa_cons (pe_bltn (v := .ty "str") (by rfl) T.b_str (by decide +kernel) rfl) pa_nil))))) (pw_or1 (pt_not (pt_chain op_le op_le pe_int (pe_callB c_len (by rfl) T.b_len (by decide +kernel) (pa_cons (pv 0) pa_nil)) pe_int))))) (pss_one (ps_ret pe_bl))
        pss_nil)
        (pss_one (ps_ret (pe_callB (cr_all rfl) (by rfl) T.b_all (by decide +kernel) (pa_cons (pe_lc (own := [("sign", 1)]) rfl sc_is_name.nd (pi_str (pv 0)) (blkOk_by (own := [("sign", 1)]) (N := n_is_name) (sc := defScope s_is_name) (by decide +kernel)) (fun _ _ _ _ _ => (pg_name (i := 1) sc_is_name.nd rfl (Or.inl rfl))) (fun _ _ _ _ _ => pts_nil) (fun _ _ _ _ _ => (pe_cmpR op_inStr (pv 1) (pe_gc (by rfl) T.c_LETTERS) (by rfl)))) pa_nil))))), ?_⟩
      (try dsimp only [cxOf, List.map])
      show VX _ _ [_, _] _ _
      walk_at "ga"
      rcases h with ⟨x, rfl, hl, q⟩ | ⟨t, ot, kt, q⟩
      · walk_at "ga"
        have no : ¬ (1 ≤ (x.length : Int) ∧ (x.length : Int) ≤ 8) → nmB x = false := fun z => by
          unfold nmB
          by_cases z1 : 1 ≤ (x.length : Int)
          · by_cases z2 : (x.length : Int) ≤ 8
            · exact absurd ⟨z1, z2⟩ z
            · rw [decide_eq_false z2, Bool.and_false, Bool.false_and]
          · rw [decide_eq_false z1, Bool.false_and, Bool.false_and]
        refine br (fun h1 => ?_) (fun h1 => ?_)
        · walk_at "ga"
          refine brN (fun h2 => ?_) (fun h2 => ?_)
          · walk_at "ga"
            rw [no (fun z => h2 z.2)] at q
            exact q
          · walk_at "ga"
            refine ve_lcM lcD (vi_str ?_)
            walk_at "ga"
            refine ⟨by unfold signsD; rw [List.length_map]; show x.cps.size ≤ 100000; exact hl, fun d hd => ?_, ?_⟩
            · obtain ⟨n, _, rfl⟩ := List.mem_map.mp hd
              walk_at "ga"
              refine ⟨rfl, ?_⟩
              walk_at "ga"
              exact ⟨rfl, rfl⟩
            · rw [lcD_signs]
              walk_at "ga"
              refine rc_all (bs := x.cps.toList.map lcN) .v ?_
              walk_at "ga"
              rw [lcs_all]
              have e : nmB x = lcs x := by
                unfold nmB
                rw [decide_eq_true h1, decide_eq_true h2, Bool.true_and, Bool.true_and]
              rw [← e]
              exact q
        · walk_at "ga"
          rw [no (fun z => h1 z.1)] at q
          exact q
      · refine rc_isiP ot kt ?_
        walk_at "ga"
        exact q) only [↓VS.box]
end
end LW
namespace LW
open PySem L2 C8 PySem.Spec PyProof.Rows VS
/-! ### parcels by value, well made -/
def labs : List Str := ["alone", "top", "upright"]
/-- good labels -/
structure Mk (ms : List Str) : Prop where
  l : ms.length ≤ 3
  e : ∀ m ∈ ms, m ∈ labs
  n : ms.Nodup
def mksOf (ms : List Str) : List Str := labs.filter fun m => decide (m ∈ ms)
def pcD (CP CS : Addr) (nm : Str) (a b c wl wt br : Int) (mk : List Str) : D := .ins CP [("called", .str nm), ("outside", sd CS a b c), ("thick", .int wl), ("heavy", .int wt), ("strong", .int br), ("marks", .lst (mk.map D.str))]
structure Pg (nm : Str) (a b c wl wt br : Int) (mk : List Str) : Prop where
  gn : nmB nm = true
  ln : nm.length ≤ 8
  a : In1 a
  b : In1 b
  c : In1 c
  wl : 1 ≤ wl ∧ wl ≤ 1000
  wt : 0 ≤ wt ∧ wt ≤ 100000
  br : 0 ≤ br ∧ br ≤ 100000
  lb : Mk mk
def p_are_labels : Pt := fun ds S G _ => ∃ ms : List Str, ds = [.lst (ms.map D.str)] ∧ Mk ms ∧ G (.bl true) S
def p_Pc_init (CP CS : Addr) : Pt := fun ds S G _ => ∃ y nm a b c wl wt br mk, ds = [.ref y, .str nm, sd CS a b c, .int wl, .int wt, .int br, .lst (mk.map D.str)] ∧ S y = some (.ins CP []) ∧ Pg nm a b c wl wt br mk ∧
  G .non (put S y (pcD CP CS nm a b c wl wt br (mksOf mk)))
def p_Pc_name (CP CS : Addr) : Pt := fun ds S G _ => ∃ nm a b c wl wt br mk, ds = [pcD CP CS nm a b c wl wt br mk] ∧ G (.str nm) S
def p_Pc_sides (CP CS : Addr) : Pt := fun ds S G _ => ∃ nm a b c wl wt br mk, ds = [pcD CP CS nm a b c wl wt br mk] ∧ G (sd CS a b c) S
theorem flat_strs : ∀ ms : List Str, (ms.map D.str).all flatD = true
  | [] => rfl
  | m :: ms => by
    rw [List.map_cons, List.all_cons, flat_strs ms]
    rfl
theorem inD_strs {m : Str} (ms : List Str) : inD (.str m) (ms.map D.str) = decide (m ∈ ms) := by
  unfold inD
  rw [List.any_map, Bool.eq_iff_iff, List.any_eq_true, decide_eq_true_eq]
  exact ⟨fun ⟨x, hx, e⟩ => by have e : (x == m) = true := e; rw [← eq_of_beq e]; exact hx, fun h => ⟨m, h, by show (m == m) = true; exact beq_self_eq_true m⟩⟩
theorem Pg.asc {nm : Str} {a b c wl wt br : Int} {mk : List Str} (g : Pg nm a b c wl wt br mk) : Asc 8 nm := by
  refine ⟨g.ln, fun c hc => ?_⟩
  have h := g.gn
  unfold nmB at h
  rw [Bool.and_eq_true] at h
  have h2 := List.all_eq_true.mp h.2 c hc
  have := (lcN_iff.mp h2).2
  omega
theorem labs_asc {m : Str} (h : m ∈ labs) : Asc 100 m := by
  simp only [labs, List.mem_cons, List.not_mem_nil, or_false] at h
  rcases h with rfl | rfl | rfl <;> exact Asc.lit (by decide)
theorem labs_in {m : Str} : inD (.str m) [.str "alone", .str "top", .str "upright"] = decide (m ∈ labs) := by
  unfold inD labs
  simp only [List.any_cons, List.any_nil, Bool.or_false, List.mem_cons, List.not_mem_nil, or_false]
  rw [Bool.eq_iff_iff]
  simp only [eqD, Bool.or_eq_true, beq_iff_eq, decide_eq_true_eq]
  exact ⟨fun h => h.imp Eq.symm (·.imp Eq.symm Eq.symm), fun h => h.imp Eq.symm (·.imp Eq.symm Eq.symm)⟩
theorem wh_ok {K : PySem.W.Frag} {i lo hi : Int} (h : lo ≤ i ∧ i ≤ hi) {S : Sto} {G : D → Sto → Prop} {Y : Addr → List (Str × D) → Sto → Prop} (q : G (.bl true) S) : p_is_whole K [.int i, .int lo, .int hi] S G Y :=
  ⟨_, _, lo, hi, rfl, .i i, by rw [whB_of h]; exact q⟩
section
variable {P : Program} {w : World} {K : PySem.W.Frag} {mg : Str → Option Value} {base : Heap}
theorem ok_are_labels {f : Addr} {fd : FuncData} {C_Measure C_Sides C_Parcel C_Heap C_NoNumber C_NoSize C_NoMeasure C_NoSide C_NoOrder C_NoSides : Addr}
    (F : Fd K "are_labels" "are_labels" s_are_labels [] f fd) (T : Tx K mg) (hsys : SysOk base) :
    FnG P w K mg base (L2.CX P w) 1 f fd a_are_labels (spOf K p_are_labels) := by
  refine VS.unbox ?_
  simp (disch := with_unfolding_all
    refine fn_val F sc_are_labels (fun ds S G Y h => ?_) (fun cdv A hgd outer s H E hr px tk po ds S G Y h => ?_)
    · obtain ⟨ms, rfl, _⟩ := h
      rfl
    · obtain ⟨ms, rfl, hm, q⟩ := h
      obtain ⟨aL, hL, rL⟩ := T.c_LABELS
      refine ⟨_, (pss_cons (ps_if (pt_cmpR op_isNo (pv 0) pe_non (nomark _)) (pss_one (ps_ret pe_bl))
        pss_nil)
        (pss_cons (ps_if (PW.pt (pw_or (pt_not (pt_val (pe_callB c_isiV (by rfl) T.b_isinstance (by decide +kernel) (pa_cons (pv 0) (pa_cons (pe_tup (pa_cons (pe_bltn (v := .ty "list") (by rfl) T.b_list (by decide +kernel) rfl) (pa_cons (pe_bltn (v := .ty "tuple") (by rfl) T.b_tuple (by decide +kernel) rfl) pa_nil))) pa_nil))))) (pw_or1 (pt_cmpR op_gt (pe_callB c_len (by rfl) T.b_len (by decide +kernel) (pa_cons (pv 0) pa_nil)) (pe_callB c_len (by rfl) T.b_len (by decide +kernel) (pa_cons (pe_kd (by rfl) hL) pa_nil)) (nomark _))))) (pss_one (ps_ret pe_bl))
        pss_nil)
        (pss_cons (ps_if (pt_not (pt_val (pe_callB (cr_all rfl) (by rfl) T.b_all (by decide +kernel) (pa_cons (pe_lc (own := [("word", 1)]) rfl sc_are_labels.nd (pi_list (pv 0)) (blkOk_by (own := [("word", 1)]) (N := n_are_labels) (sc := defScope s_are_labels) (by decide +kernel)) (fun _ _ _ _ _ => (pg_name (i := 1) sc_are_labels.nd rfl (Or.inl rfl))) (fun _ _ _ _ _ => pts_nil) (fun _ _ _ _ _ => (pe_and (pe_callB (kC (K := K) (r := rIsiZ) c_isiZ) (by rfl) T.b_isinstance (by decide +kernel) (pa_cons (pv 1) (pa_cons (pe_bltn (v := .ty "str") (by rfl) T.b_str (by decide +kernel) rfl) pa_nil))) (pe_one (pe_cmpR (kO (K := K) (r := (fun K => rIn K false)) op_in_seq) (pv 1) (pe_kd (by rfl) hL) (by rfl)))))) pa_nil)))) (pss_one (ps_ret pe_bl))
        pss_nil)
        (pss_one (ps_ret (pe_cmpR op_eq (pe_lenS (by rfl) T.b_len (by rfl) T.b_set (pv 0)) (pe_callB c_len (by rfl) T.b_len (by decide +kernel) (pa_cons (pv 0) pa_nil)) (nomark _))))))), ?_⟩
      (try dsimp only [cxOf, List.map])
      show VX _ _ [_, _] _ _
      walk_at "ga"
      refine rc_isiLT (.v (isP_strs ms)) ?_
      walk_at "ga"
      refine br (fun h => ?_) (fun _ => ?_)
      · have := hm.l
        simp only [List.length_map] at h
        have h : (ms.length : Int) > 3 := h
        omega
      walk_at "ga"
      refine ve_lcM (fun _ => .bl true) (vi_list ?_)
      walk_at "ga"
      refine ⟨_, .v, ?_⟩
      have len := hm.l
      refine ⟨by rw [List.length_map]; omega, fun d hd => ?_, ?_⟩
      · obtain ⟨m, hm', rfl⟩ := List.mem_map.mp hd
        have el := hm.e m hm'
        walk_at "ga"
        refine ⟨rfl, ?_⟩
        walk_at "ga"
        refine rv_in .t rfl rfl ?_
        rw [labs_in, decide_eq_true el]
        exact ⟨rfl, rfl⟩
      walk_at "ga"
      refine rc_all (bs := ms.map fun _ => true) (by rw [List.map_map, List.map_map]; exact .v) ?_
      walk_at "ga"
      have al : (ms.map fun _ => true).all id = true := by
        rw [List.all_eq_true]
        intro b hb
        obtain ⟨_, _, rfl⟩ := List.mem_map.mp hb
        rfl
      rw [al]
      walk_at "ga"
      refine ve_lenS ?_
      walk_at "ga"
      refine ⟨ms, .l .v, by omega, ?_⟩
      walk_at "ga"
      rw [unl_nodup hm.n _ (Nat.le_refl _), List.length_map, decide_eq_true rfl]
      exact q) only [↓VS.box]
theorem ok_Parcel___init__ {f : Addr} {fd : FuncData} {C_Measure C_Sides C_Parcel C_Heap C_NoNumber C_NoSize C_NoMeasure C_NoSide C_NoOrder C_NoSides : Addr} {f_is_name f_is_whole f_are_labels : Addr} {g_is_name g_is_whole g_are_labels : FuncData}
    (F : Fd K "__init__" "Parcel.__init__" s_Parcel___init__ [.int 1, .int 0, .int 0, .non] f fd) (T : Tx K mg) (hsys : SysOk base)
    (c_is_name : Cf P w K mg base (L2.CX P w) 1 "is_name" s_is_name [] a_is_name (p_is_name K) f_is_name g_is_name)
    (c_is_whole : Cf P w K mg base (L2.CX P w) 1 "is_whole" s_is_whole [] a_is_whole (p_is_whole K) f_is_whole g_is_whole)
    (c_are_labels : Cf P w K mg base (L2.CX P w) 1 "are_labels" s_are_labels [] a_are_labels p_are_labels f_are_labels g_are_labels)
    (k_Sides : Kl_Sides K mg C_Sides)
    (k_Parcel : Kl_Parcel K mg C_Parcel) :
    FnG P w K mg base (L2.CX P w) 3 f fd a_Parcel___init__ (spOf K (p_Pc_init C_Parcel C_Sides)) := by
  refine VS.unbox ?_
  simp (disch := with_unfolding_all
    have kc_Sides := k_Sides.ins.cl
    have ka_Sides_three := k_Sides.a_three
    have kc_Parcel := k_Parcel.ins.cl
    have ka_Parcel_called := k_Parcel.a_called
    have ka_Parcel_outside := k_Parcel.a_outside
    have ka_Parcel_thick := k_Parcel.a_thick
    have ka_Parcel_heavy := k_Parcel.a_heavy
    have ka_Parcel_strong := k_Parcel.a_strong
    have ka_Parcel_marks := k_Parcel.a_marks
    refine fn_val F sc_Parcel___init__ (fun ds S G Y h => ?_) (fun cdv A hgd outer s H E hr px tk po ds S G Y h => ?_)
    · obtain ⟨y, nm, a, b, c, wl, wt, br, mk, rfl, _⟩ := h
      rfl
    · obtain ⟨y, nm, a, b, c, wl, wt, br, mk, rfl, hy, g, q⟩ := h
      obtain ⟨aL, hL, rL⟩ := T.c_LABELS
      refine ⟨_, (pss_cons (ps_if (pt_not (pt_val (pe_cG c_is_name.fn hgd (hr.mono (by decide)) (by rfl) c_is_name.mg c_is_name.kp c_is_name.b .nil VS.pass0 (pa_cons (pv 1) pa_nil)))) (pss_one ps_nev)
        pss_nil)
        (pss_cons (ps_if (pt_not (pt_val (pe_callB c_isiZ (by rfl) T.b_isinstance (by decide +kernel) (pa_cons (pv 2) (pa_cons (pe_gc (v := .ref C_Sides) (by rfl) ⟨_, k_Sides.at_, rfl⟩) pa_nil))))) (pss_one ps_nev)
        pss_nil)
        (pss_cons (ps_if (pt_not (pt_val (pe_cG c_is_whole.fn hgd (hr.mono (by decide)) (by rfl) c_is_whole.mg c_is_whole.kp c_is_whole.b .nil VS.pass0 (pa_cons (pv 3) (pa_cons pe_int (pa_cons (pe_gc (by rfl) T.c_MOST_WALL) pa_nil)))))) (pss_one ps_nev)
        pss_nil)
        (pss_cons (ps_for po rfl (pi_tup (pe_tup (pa_cons (pv 4) (pa_cons (pv 5) pa_nil)))) (pg_name (i := 7) sc_Parcel___init__.nd rfl (Or.inl rfl))
        (pss_one (ps_if (pt_not (pt_val (pe_cG c_is_whole.fn hgd (hr.mono (by decide)) (by rfl) c_is_whole.mg c_is_whole.kp c_is_whole.b .nil VS.pass0 (pa_cons (pv 7) (pa_cons pe_int (pa_cons (pe_gc (by rfl) T.c_MOST_WEIGHT) pa_nil)))))) (pss_one ps_nev)
        pss_nil)))
        (pss_cons (ps_if (pt_not (pt_val (pe_cG c_are_labels.fn hgd (hr.mono (by decide)) (by rfl) c_are_labels.mg c_are_labels.kp c_are_labels.b .nil VS.pass0 (pa_cons (pv 6) pa_nil)))) (pss_one ps_nev)
        pss_nil)
        (pss_cons (ps_fld (pv 0) (pv 1) rfl)
        (pss_cons (ps_fld (pv 0) (pv 2) rfl)
        (pss_cons (ps_fld (pv 0) (pv 3) rfl)
        (pss_cons (ps_fld (pv 0) (pv 4) rfl)
        (pss_cons (ps_fld (pv 0) (pv 5) rfl)
        (pss_one (ps_fld (pv 0) (pe_lc (own := [("word", 8)]) rfl sc_Parcel___init__.nd (pi_tup (pe_kd (by rfl) hL)) (blkOk_by (own := [("word", 8)]) (N := n_Parcel___init__) (sc := defScope s_Parcel___init__) (by decide +kernel)) (fun _ _ _ _ _ => (pg_name (i := 8) sc_Parcel___init__.nd rfl (Or.inl rfl))) (fun _ _ _ _ _ => (pts_one (PW.pt (pw_and (pt_cmpR op_notNo (pv 6) pe_non (nomark _)) (pw_and1 (pt_cmpR (kO (K := K) (r := (fun K => rIn K false)) op_in_seq) (pv 8) (pv 6) (by rfl))))))) (fun _ _ _ _ _ => (pv 8))) rfl)))))))))))), ?_⟩
      (try dsimp only [cxOf, List.map])
      show VX _ _ [_, _, _, _, _, _, _, _, _] _ _
      walk_at "ga"
      refine name_ok g.gn (Nat.le_trans g.ln (by decide)) ?_
      walk_at "ga"
      refine wh_ok g.wl ?_
      walk_at "ga"
      refine vx_for (vi_tup ?_)
      walk_at "ga"
      refine ⟨_, rfl, fun i ρ2 S2 => S2 = S ∧ ∃ x, ρ2 = [some (.ref y), some (.str nm), some (sd C_Sides a b c), some (.int wl), some (.int wt), some (.int br), some (.lst (mk.map D.str)), x, none], ⟨rfl, _, rfl⟩, ?_, ?_⟩
      · rintro i d ρ2 S2 hd ⟨rfl, x, rfl⟩
        obtain ⟨n, rfl, hn⟩ : ∃ n, d = .int n ∧ 0 ≤ n ∧ n ≤ 100000 := by
          have := List.mem_of_getElem? hd
          simp only [List.mem_cons, List.not_mem_nil, or_false] at this
          rcases this with rfl | rfl
          · exact ⟨_, rfl, g.wt⟩
          · exact ⟨_, rfl, g.br⟩
        walk_at "ga"
        refine wh_ok hn ?_
        walk_at "ga"
        exact ⟨rfl, _, rfl⟩
      · rintro ρ2 S2 ⟨rfl, x, rfl⟩
        walk_at "ga"
        refine ⟨mk, rfl, g.lb, ?_⟩
        walk_at "ga"
        refine ⟨y, C_Parcel, _, rfl, put_same, kc_Parcel, ka_Parcel_outside, by show 1 < 1000; decide, ?_⟩
        walk_at "ga"
        refine ⟨y, C_Parcel, _, rfl, put_same, kc_Parcel, ka_Parcel_thick, by show 2 < 1000; decide, ?_⟩
        walk_at "ga"
        refine ⟨y, C_Parcel, _, rfl, put_same, kc_Parcel, ka_Parcel_heavy, by show 3 < 1000; decide, ?_⟩
        walk_at "ga"
        refine ⟨y, C_Parcel, _, rfl, put_same, kc_Parcel, ka_Parcel_strong, by show 4 < 1000; decide, ?_⟩
        walk_at "ga"
        simp only [put_put]
        generalize hS : VS.put S2 y _ = S3
        refine ve_lcF (fun d => inD d (mk.map D.str)) id (vi_tup ?_)
        walk_at "ga"
        refine ⟨_, rfl, by show 3 ≤ 100000; decide, all3 ?_ ?_ ?_, ?_⟩
        · walk_at "ga"
          refine rv_in (.l .v) rfl (flat_strs mk) ?_
          walk_at "ga"
          exact ⟨rfl, fun _ => rfl, fun _ => by walk_at "ga"; exact ⟨rfl, rfl⟩⟩
        · walk_at "ga"
          refine rv_in (.l .v) rfl (flat_strs mk) ?_
          walk_at "ga"
          exact ⟨rfl, fun _ => rfl, fun _ => by walk_at "ga"; exact ⟨rfl, rfl⟩⟩
        · walk_at "ga"
          refine rv_in (.l .v) rfl (flat_strs mk) ?_
          walk_at "ga"
          exact ⟨rfl, fun _ => rfl, fun _ => by walk_at "ga"; exact ⟨rfl, rfl⟩⟩
        subst hS
        walk_at "ga"
        refine ⟨y, C_Parcel, _, rfl, put_same, kc_Parcel, ka_Parcel_marks, by show 5 < 1000; decide, ?_⟩
        rw [put_put]
        have e : List.map id (List.filter (fun d => inD d (mk.map D.str)) [D.str "alone", D.str "top", D.str "upright"]) = (mksOf mk).map D.str := by
          rw [List.map_id]
          show (labs.map D.str).filter _ = _
          rw [List.filter_map]
          unfold mksOf
          congr 1
          apply List.filter_congr
          intro m _
          exact inD_strs mk
        rw [e]
        exact q) only [↓VS.box]
theorem ok_Parcel_name {f : Addr} {fd : FuncData} {C_Measure C_Sides C_Parcel C_Heap C_NoNumber C_NoSize C_NoMeasure C_NoSide C_NoOrder C_NoSides : Addr}
    (F : Fd K "name" "Parcel.name" s_Parcel_name [] f fd) (T : Tx K mg) (hsys : SysOk base)
    (k_Parcel : Kl_Parcel K mg C_Parcel)
    (k_Sides : Kl_Sides K mg C_Sides) :
    FnG P w K mg base (L2.CX P w) 1 f fd a_Parcel_name (spOf K (p_Pc_name C_Parcel C_Sides)) := by
  refine VS.unbox ?_
  simp (disch := with_unfolding_all
    have kc_Parcel := k_Parcel.ins.cl
    have ka_Parcel_called := k_Parcel.a_called
    have ka_Parcel_outside := k_Parcel.a_outside
    have ka_Parcel_thick := k_Parcel.a_thick
    have ka_Parcel_heavy := k_Parcel.a_heavy
    have ka_Parcel_strong := k_Parcel.a_strong
    have ka_Parcel_marks := k_Parcel.a_marks
    have kc_Sides := k_Sides.ins.cl
    have ka_Sides_three := k_Sides.a_three
    refine fn_val F sc_Parcel_name (fun ds S G Y h => ?_) (fun cdv A hgd outer s H E hr px tk po ds S G Y h => ?_)
    · obtain ⟨nm, a, b, c, wl, wt, br, mk, rfl, _⟩ := h
      rfl
    · obtain ⟨nm, a, b, c, wl, wt, br, mk, rfl, q⟩ := h
      refine ⟨_, (pss_one (ps_ret (pe_fld (pv 0) rfl))), ?_⟩
      (try dsimp only [cxOf, List.map])
      show VX _ _ [_] _ _
      walk_at "ga"
      exact q) only [↓VS.box]
theorem ok_Parcel_sides {f : Addr} {fd : FuncData} {C_Measure C_Sides C_Parcel C_Heap C_NoNumber C_NoSize C_NoMeasure C_NoSide C_NoOrder C_NoSides : Addr}
    (F : Fd K "sides" "Parcel.sides" s_Parcel_sides [] f fd) (T : Tx K mg) (hsys : SysOk base)
    (k_Parcel : Kl_Parcel K mg C_Parcel)
    (k_Sides : Kl_Sides K mg C_Sides) :
    FnG P w K mg base (L2.CX P w) 1 f fd a_Parcel_sides (spOf K (p_Pc_sides C_Parcel C_Sides)) := by
  refine VS.unbox ?_
  simp (disch := with_unfolding_all
    have kc_Parcel := k_Parcel.ins.cl
    have ka_Parcel_called := k_Parcel.a_called
    have ka_Parcel_outside := k_Parcel.a_outside
    have ka_Parcel_thick := k_Parcel.a_thick
    have ka_Parcel_heavy := k_Parcel.a_heavy
    have ka_Parcel_strong := k_Parcel.a_strong
    have ka_Parcel_marks := k_Parcel.a_marks
    have kc_Sides := k_Sides.ins.cl
    have ka_Sides_three := k_Sides.a_three
    refine fn_val F sc_Parcel_sides (fun ds S G Y h => ?_) (fun cdv A hgd outer s H E hr px tk po ds S G Y h => ?_)
    · obtain ⟨nm, a, b, c, wl, wt, br, mk, rfl, _⟩ := h
      rfl
    · obtain ⟨nm, a, b, c, wl, wt, br, mk, rfl, q⟩ := h
      refine ⟨_, (pss_one (ps_ret (pe_fld (pv 0) rfl))), ?_⟩
      (try dsimp only [cxOf, List.map])
      show VX _ _ [_] _ _
      walk_at "ga"
      exact q) only [↓VS.box]
end
end LW
namespace LW
open PySem L2 C8 PySem.Spec PyProof.Rows VS
/-! ### a parcel's labels, by reference or by value -/
def p_Pc_labelsB (CP CS : Addr) : Pt := fun ds S G _ => ∃ nm a b c wl wt br mk, ds = [pcD CP CS nm a b c wl wt br mk] ∧ ((∀ l, S l = none → G (.ref l) (put S l (.lst (mk.map D.str)))) ∨ G (.lst (mk.map D.str)) S)
section
variable {P : Program} {w : World} {K : PySem.W.Frag} {mg : Str → Option Value} {base : Heap}
theorem ok_Parcel_labels {f : Addr} {fd : FuncData} {C_Measure C_Sides C_Parcel C_Heap C_NoNumber C_NoSize C_NoMeasure C_NoSide C_NoOrder C_NoSides : Addr}
    (F : Fd K "labels" "Parcel.labels" s_Parcel_labels [] f fd) (T : Tx K mg) (hsys : SysOk base)
    (k_Parcel : Kl_Parcel K mg C_Parcel)
    (k_Sides : Kl_Sides K mg C_Sides) :
    FnG P w K mg base (L2.CX P w) 1 f fd a_Parcel_labels (spOf K (p_Pc_labelsB C_Parcel C_Sides)) := by
  refine VS.unbox ?_
  simp (disch := with_unfolding_all
    have kc_Parcel := k_Parcel.ins.cl
    have ka_Parcel_called := k_Parcel.a_called
    have ka_Parcel_outside := k_Parcel.a_outside
    have ka_Parcel_thick := k_Parcel.a_thick
    have ka_Parcel_heavy := k_Parcel.a_heavy
    have ka_Parcel_strong := k_Parcel.a_strong
    have ka_Parcel_marks := k_Parcel.a_marks
    have kc_Sides := k_Sides.ins.cl
    have ka_Sides_three := k_Sides.a_three
    refine fn_val F sc_Parcel_labels (fun ds S G Y h => ?_) (fun cdv A hgd outer s H E hr px tk po ds S G Y h => ?_)
    · obtain ⟨nm, a, b, c, wl, wt, br, mk, rfl, _⟩ := h
      rfl
    · obtain ⟨nm, a, b, c, wl, wt, br, mk, rfl, q⟩ := h
      refine ⟨_, (pss_one (ps_ret (pe_callTy c_list (by rfl) T.b_list (by decide +kernel) (pa_cons (pe_fld (pv 0) rfl) pa_nil)))), ?_⟩
      (try dsimp only [cxOf, List.map])
      show VX _ _ [_] _ _
      rcases q with q | q
      · walk_at "gr"
        exact rc_listc (.l .v) q
      · walk_at "gr"
        exact rc_list (.l .v) q) only [↓VS.box]
end
end LW
namespace LW
open PySem L2 C8 PySem.Spec PyProof.Rows VS
/-! ### a parcel's numbers -/
def p_Pc_wall (CP CS : Addr) : Pt := fun ds S G _ => ∃ nm a b c wl wt br mk, ds = [pcD CP CS nm a b c wl wt br mk] ∧ G (.int wl) S
def p_Pc_weight (CP CS : Addr) : Pt := fun ds S G _ => ∃ nm a b c wl wt br mk, ds = [pcD CP CS nm a b c wl wt br mk] ∧ G (.int wt) S
def p_Pc_bears (CP CS : Addr) : Pt := fun ds S G _ => ∃ nm a b c wl wt br mk, ds = [pcD CP CS nm a b c wl wt br mk] ∧ G (.int br) S
section
variable {P : Program} {w : World} {K : PySem.W.Frag} {mg : Str → Option Value} {base : Heap}
theorem ok_Parcel_wall {f : Addr} {fd : FuncData} {C_Measure C_Sides C_Parcel C_Heap C_NoNumber C_NoSize C_NoMeasure C_NoSide C_NoOrder C_NoSides : Addr}
    (F : Fd K "wall" "Parcel.wall" s_Parcel_wall [] f fd) (T : Tx K mg) (hsys : SysOk base)
    (k_Parcel : Kl_Parcel K mg C_Parcel)
    (k_Sides : Kl_Sides K mg C_Sides) :
    FnG P w K mg base (L2.CX P w) 1 f fd a_Parcel_wall (spOf K (p_Pc_wall C_Parcel C_Sides)) := by
  refine VS.unbox ?_
  simp (disch := with_unfolding_all
    have kc_Parcel := k_Parcel.ins.cl
    have ka_Parcel_called := k_Parcel.a_called
    have ka_Parcel_outside := k_Parcel.a_outside
    have ka_Parcel_thick := k_Parcel.a_thick
    have ka_Parcel_heavy := k_Parcel.a_heavy
    have ka_Parcel_strong := k_Parcel.a_strong
    have ka_Parcel_marks := k_Parcel.a_marks
    have kc_Sides := k_Sides.ins.cl
    have ka_Sides_three := k_Sides.a_three
    refine fn_val F sc_Parcel_wall (fun ds S G Y h => ?_) (fun cdv A hgd outer s H E hr px tk po ds S G Y h => ?_)
    · obtain ⟨nm, a, b, c, wl, wt, br, mk, rfl, _⟩ := h
      rfl
    · obtain ⟨nm, a, b, c, wl, wt, br, mk, rfl, q⟩ := h
      refine ⟨_, (pss_one (ps_ret (pe_fld (pv 0) rfl))), ?_⟩
      (try dsimp only [cxOf, List.map])
      show VX _ _ [_] _ _
      walk_at "ga"
      exact q) only [↓VS.box]
theorem ok_Parcel_weight {f : Addr} {fd : FuncData} {C_Measure C_Sides C_Parcel C_Heap C_NoNumber C_NoSize C_NoMeasure C_NoSide C_NoOrder C_NoSides : Addr}
    (F : Fd K "weight" "Parcel.weight" s_Parcel_weight [] f fd) (T : Tx K mg) (hsys : SysOk base)
    (k_Parcel : Kl_Parcel K mg C_Parcel)
    (k_Sides : Kl_Sides K mg C_Sides) :
    FnG P w K mg base (L2.CX P w) 1 f fd a_Parcel_weight (spOf K (p_Pc_weight C_Parcel C_Sides)) := by
  refine VS.unbox ?_
  simp (disch := with_unfolding_all
    have kc_Parcel := k_Parcel.ins.cl
    have ka_Parcel_called := k_Parcel.a_called
    have ka_Parcel_outside := k_Parcel.a_outside
    have ka_Parcel_thick := k_Parcel.a_thick
    have ka_Parcel_heavy := k_Parcel.a_heavy
    have ka_Parcel_strong := k_Parcel.a_strong
    have ka_Parcel_marks := k_Parcel.a_marks
    have kc_Sides := k_Sides.ins.cl
    have ka_Sides_three := k_Sides.a_three
    refine fn_val F sc_Parcel_weight (fun ds S G Y h => ?_) (fun cdv A hgd outer s H E hr px tk po ds S G Y h => ?_)
    · obtain ⟨nm, a, b, c, wl, wt, br, mk, rfl, _⟩ := h
      rfl
    · obtain ⟨nm, a, b, c, wl, wt, br, mk, rfl, q⟩ := h
      refine ⟨_, (pss_one (ps_ret (pe_fld (pv 0) rfl))), ?_⟩
      (try dsimp only [cxOf, List.map])
      show VX _ _ [_] _ _
      walk_at "ga"
      exact q) only [↓VS.box]
theorem ok_Parcel_bears {f : Addr} {fd : FuncData} {C_Measure C_Sides C_Parcel C_Heap C_NoNumber C_NoSize C_NoMeasure C_NoSide C_NoOrder C_NoSides : Addr}
    (F : Fd K "bears" "Parcel.bears" s_Parcel_bears [] f fd) (T : Tx K mg) (hsys : SysOk base)
    (k_Parcel : Kl_Parcel K mg C_Parcel)
    (k_Sides : Kl_Sides K mg C_Sides) :
    FnG P w K mg base (L2.CX P w) 1 f fd a_Parcel_bears (spOf K (p_Pc_bears C_Parcel C_Sides)) := by
  refine VS.unbox ?_
  simp (disch := with_unfolding_all
    have kc_Parcel := k_Parcel.ins.cl
    have ka_Parcel_called := k_Parcel.a_called
    have ka_Parcel_outside := k_Parcel.a_outside
    have ka_Parcel_thick := k_Parcel.a_thick
    have ka_Parcel_heavy := k_Parcel.a_heavy
    have ka_Parcel_strong := k_Parcel.a_strong
    have ka_Parcel_marks := k_Parcel.a_marks
    have kc_Sides := k_Sides.ins.cl
    have ka_Sides_three := k_Sides.a_three
    refine fn_val F sc_Parcel_bears (fun ds S G Y h => ?_) (fun cdv A hgd outer s H E hr px tk po ds S G Y h => ?_)
    · obtain ⟨nm, a, b, c, wl, wt, br, mk, rfl, _⟩ := h
      rfl
    · obtain ⟨nm, a, b, c, wl, wt, br, mk, rfl, q⟩ := h
      refine ⟨_, (pss_one (ps_ret (pe_fld (pv 0) rfl))), ?_⟩
      (try dsimp only [cxOf, List.map])
      show VX _ _ [_] _ _
      walk_at "ga"
      exact q) only [↓VS.box]
end
end LW
namespace LW
open PySem L2 C8 PySem.Spec PyProof.Rows VS
/-! ### heaps, known by reference -/
structure Pc where
  of ::
  nm : Str
  a : Int
  b : Int
  c : Int
  wl : Int
  wt : Int
  br : Int
  mk : List Str
def Pc.d (CP CS : Addr) (p : Pc) : D := pcD CP CS p.nm p.a p.b p.c p.wl p.wt p.br p.mk
def Pc.g (p : Pc) : Prop := Pg p.nm p.a p.b p.c p.wl p.wt p.br p.mk
/-- parcels that stand in a heap -/
structure Hps (ps : List Pc) : Prop where
  g : ∀ p ∈ ps, p.g
  n : (ps.map Pc.nm).Nodup
  l : ps.length ≤ 12
def HpS (S : Sto) (CH CP CS h l : Addr) (ps : List Pc) : Prop := S h = some (.ins CH [("held", .ref l)]) ∧ S l = some (.lst (ps.map (Pc.d CP CS)))
theorem HpS.ext {S S' : Sto} {CH CP CS h l : Addr} {ps : List Pc} (x : HpS S CH CP CS h l ps) (e : Ext S S') : HpS S' CH CP CS h l ps := ⟨e _ _ x.1, e _ _ x.2⟩
theorem HpS.ne {S : Sto} {CH CP CS h l : Addr} {ps : List Pc} (x : HpS S CH CP CS h l ps) : h ≠ l := fun z => by
  have := x.1
  rw [z, x.2] at this
  cases this
theorem HpS.wr {S : Sto} {CH CP CS h l a : Addr} {ps : List Pc} {d : D} (x : HpS S CH CP CS h l ps) (n1 : h ≠ a) (n2 : l ≠ a) : HpS (VS.put S a d) CH CP CS h l ps := ⟨(put_ne n1).trans x.1, (put_ne n2).trans x.2⟩
theorem HpS.set {S : Sto} {CH CP CS h l : Addr} {ps qs : List Pc} (x : HpS S CH CP CS h l ps) : HpS (VS.put S l (.lst (qs.map (Pc.d CP CS)))) CH CP CS h l qs := ⟨(put_ne x.ne).trans x.1, put_same⟩
def p_Hp_init (CH : Addr) : Pt := fun ds S G _ => ∃ y, ds = [.ref y] ∧ S y = some (.ins CH []) ∧ ∀ l, S l = none → G .non (put (put S l (.lst [])) y (.ins CH [("held", .ref l)]))
def p_Hp_names (CH CP CS : Addr) : Pt := fun ds S G _ => ∃ h l ps, ds = [.ref h] ∧ HpS S CH CP CS h l ps ∧ ps.length ≤ 12 ∧ G (.lst ((ps.map Pc.nm).map D.str)) S
def p_Hp_put (CH CP CS : Addr) : Pt := fun ds S G _ => ∃ (h l : Addr) (ps : List Pc) (p : Pc), ds = [.ref h, p.d CP CS, .non] ∧ HpS S CH CP CS h l ps ∧ ps.length < 12 ∧ p.nm ∉ ps.map Pc.nm ∧ G .non (put S l (.lst ((ps ++ [p]).map (Pc.d CP CS))))
/-- a heap made, known by reference -/
theorem ve_mkHp {c : VS.Ctx} {ρ : Rho} {S : Sto} {F : D → Sto → Prop} {t : TA} {E : L2.St → XK} {CH : Addr}
    (h : VA c t ρ S fun ds S1 => ds = [] ∧ ∀ h l S2, S1 h = none → S1 l = none → Ext S1 S2 → S2 h = some (.ins CH [("held", .ref l)]) → S2 l = some (.lst []) → F (.ref h) S2) : VE c (tMakeE CH (spOf c.K (p_Hp_init CH)) [] E t) ρ S F :=
  ve_mk (dds := []) XOk.none (fun _ _ => .nil) (h.imp fun ds S1 ⟨e, q⟩ y hy => by
    subst e
    refine ⟨y, rfl, put_same, fun l hl => ⟨rfl, ?_⟩⟩
    have ne : l ≠ y := fun z => by subst z; rw [put_same] at hl; cases hl
    rw [put_ne ne] at hl
    refine q y l _ hy hl (fun a d ha => ?_) put_same ((put_ne ne).trans put_same)
    have n1 : a ≠ y := fun z => by subst z; rw [hy] at ha; cases ha
    have n2 : a ≠ l := fun z => by subst z; rw [hl] at ha; cases ha
    rw [put_ne n1, put_ne n2, put_ne n1]
    exact ha)
section
variable {P : Program} {w : World} {K : PySem.W.Frag} {mg : Str → Option Value} {base : Heap}
theorem ok_Heap___init__ {f : Addr} {fd : FuncData} {C_Measure C_Sides C_Parcel C_Heap C_NoNumber C_NoSize C_NoMeasure C_NoSide C_NoOrder C_NoSides : Addr}
    (F : Fd K "__init__" "Heap.__init__" s_Heap___init__ [] f fd) (T : Tx K mg) (hsys : SysOk base)
    (k_Heap : Kl_Heap K mg C_Heap) :
    FnG P w K mg base (L2.CX P w) 1 f fd a_Heap___init__ (spOf K (p_Hp_init C_Heap)) := by
  refine VS.unbox ?_
  simp (disch := with_unfolding_all
    have kc_Heap := k_Heap.ins.cl
    have ka_Heap_held := k_Heap.a_held
    refine fn_val F sc_Heap___init__ (fun ds S G Y h => ?_) (fun cdv A hgd outer s H E hr px tk po ds S G Y h => ?_)
    · obtain ⟨y, rfl, _⟩ := h
      rfl
    · obtain ⟨y, rfl, hy, q⟩ := h
      refine ⟨_, (pss_one (ps_fld (pv 0) (pe_lst pa_nil) rfl)), ?_⟩
      (try dsimp only [cxOf, List.map])
      show VX _ _ [_] _ _
      walk_at "gr"
      refine ve_lstc ?_
      walk_at "gr"
      intro l hl
      have hy2 : VS.put S l (.lst []) y = some (.ins C_Heap []) := by rw [put_ne (ne_at hy hl)]; exact hy
      walk_at "gr"
      exact q l hl) only [↓VS.box]
theorem ok_Heap_names {f : Addr} {fd : FuncData} {C_Measure C_Sides C_Parcel C_Heap C_NoNumber C_NoSize C_NoMeasure C_NoSide C_NoOrder C_NoSides : Addr} {f_Parcel_name : Addr} {g_Parcel_name : FuncData}
    (F : Fd K "names" "Heap.names" s_Heap_names [] f fd) (T : Tx K mg) (hsys : SysOk base)
    (c_Parcel_name : Mf P w K mg base 1 C_Parcel "name" "Parcel.name" s_Parcel_name [] a_Parcel_name (p_Pc_name C_Parcel C_Sides) f_Parcel_name g_Parcel_name)
    (k_Heap : Kl_Heap K mg C_Heap)
    (k_Parcel : Kl_Parcel K mg C_Parcel)
    (k_Sides : Kl_Sides K mg C_Sides) :
    FnG P w K mg base (L2.CX P w) 2 f fd a_Heap_names (spOf K (p_Hp_names C_Heap C_Parcel C_Sides)) := by
  refine VS.unbox ?_
  simp (disch := with_unfolding_all
    have kc_Heap := k_Heap.ins.cl
    have ka_Heap_held := k_Heap.a_held
    have kc_Parcel := k_Parcel.ins.cl
    have ka_Parcel_called := k_Parcel.a_called
    have ka_Parcel_outside := k_Parcel.a_outside
    have ka_Parcel_thick := k_Parcel.a_thick
    have ka_Parcel_heavy := k_Parcel.a_heavy
    have ka_Parcel_strong := k_Parcel.a_strong
    have ka_Parcel_marks := k_Parcel.a_marks
    have kc_Sides := k_Sides.ins.cl
    have ka_Sides_three := k_Sides.a_three
    refine fn_val F sc_Heap_names (fun ds S G Y h => ?_) (fun cdv A hgd outer s H E hr px tk po ds S G Y h => ?_)
    · obtain ⟨hh, l, ps, rfl, _⟩ := h
      rfl
    · obtain ⟨hh, l, ps, rfl, ⟨h1, h2⟩, hl, q⟩ := h
      refine ⟨_, (pss_one (ps_ret (pe_lc (own := [("parcel", 1)]) rfl sc_Heap_names.nd (pi_list (pe_fld (pv 0) rfl)) (blkOk_by (own := [("parcel", 1)]) (N := n_Heap_names) (sc := defScope s_Heap_names) (by decide +kernel)) (fun _ _ _ _ _ => (pg_name (i := 1) sc_Heap_names.nd rfl (Or.inl rfl))) (fun _ _ _ _ _ => pts_nil) (fun _ _ _ _ _ => (pe_mG0 (pv 1) c_Parcel_name.cl c_Parcel_name.me c_Parcel_name.fn hgd (hr.mono (by decide)) c_Parcel_name.b .nil VS.pass0))))), ?_⟩
      (try dsimp only [cxOf, List.map])
      show VX _ _ [_, _] _ _
      walk_at "gr"
      have ne : hh ≠ l := HpS.ne ⟨h1, h2⟩
      have h3 : (VS.del S l) hh = some (.ins C_Heap [("held", .ref l)]) := by rw [VS.del_ne ne]; exact h1
      refine ve_lcCellE (l := l) ?_ h2 (by rw [List.length_map]; omega) (fun i acc S2 => acc = ((ps.map Pc.nm).map D.str).take i ∧ S2 = VS.del S l) ⟨rfl, rfl⟩ (fun i d acc S2 hd hw _ => ?_) ?_
      · walk_at "gr"
        exact ⟨rfl, rfl⟩
      · obtain ⟨rfl, rfl⟩ := hw
        rw [List.getElem?_map] at hd
        cases e : ps[i]? with
        | none => rw [e] at hd; cases hd
        | some p =>
          rw [e] at hd
          cases hd
          walk_at "gr"
          refine ⟨p.nm, p.a, p.b, p.c, p.wl, p.wt, p.br, p.mk, rfl, ?_, rfl⟩
          rw [List.take_succ]
          congr 1
          rw [List.getElem?_map, List.getElem?_map, e]
          rfl
      · rintro acc S2 ⟨rfl, rfl⟩ _
        rw [put_back h2]
        rw [List.take_of_length_le (by simp)]
        exact q) only [↓VS.box]
theorem ok_Heap_put {f : Addr} {fd : FuncData} {C_Measure C_Sides C_Parcel C_Heap C_NoNumber C_NoSize C_NoMeasure C_NoSide C_NoOrder C_NoSides : Addr} {f_Heap_names f_Parcel_name : Addr} {g_Heap_names g_Parcel_name : FuncData}
    (F : Fd K "put" "Heap.put" s_Heap_put [.non] f fd) (T : Tx K mg) (hsys : SysOk base)
    (c_Heap_names : Mf P w K mg base 2 C_Heap "names" "Heap.names" s_Heap_names [] a_Heap_names (p_Hp_names C_Heap C_Parcel C_Sides) f_Heap_names g_Heap_names)
    (c_Parcel_name : Mf P w K mg base 1 C_Parcel "name" "Parcel.name" s_Parcel_name [] a_Parcel_name (p_Pc_name C_Parcel C_Sides) f_Parcel_name g_Parcel_name)
    (k_Heap : Kl_Heap K mg C_Heap)
    (k_Parcel : Kl_Parcel K mg C_Parcel)
    (k_Sides : Kl_Sides K mg C_Sides) :
    FnG P w K mg base (L2.CX P w) 3 f fd a_Heap_put (spOf K (p_Hp_put C_Heap C_Parcel C_Sides)) := by
  refine VS.unbox ?_
  simp (disch := with_unfolding_all
    have kc_Heap := k_Heap.ins.cl
    have ka_Heap_held := k_Heap.a_held
    have kc_Parcel := k_Parcel.ins.cl
    have ka_Parcel_called := k_Parcel.a_called
    have ka_Parcel_outside := k_Parcel.a_outside
    have ka_Parcel_thick := k_Parcel.a_thick
    have ka_Parcel_heavy := k_Parcel.a_heavy
    have ka_Parcel_strong := k_Parcel.a_strong
    have ka_Parcel_marks := k_Parcel.a_marks
    have kc_Sides := k_Sides.ins.cl
    have ka_Sides_three := k_Sides.a_three
    refine fn_val F sc_Heap_put (fun ds S G Y h => ?_) (fun cdv A hgd outer s H E hr px tk po ds S G Y h => ?_)
    · obtain ⟨hh, l, ps, p, rfl, _⟩ := h
      rfl
    · obtain ⟨hh, l, ps, p, rfl, ⟨h1, h2⟩, hl, hn, q⟩ := h
      refine ⟨_, (pss_cons (ps_if (pt_not (pt_val (pe_callB c_isiZ (by rfl) T.b_isinstance (by decide +kernel) (pa_cons (pv 1) (pa_cons (pe_gc (v := .ref C_Parcel) (by rfl) ⟨_, k_Parcel.at_, rfl⟩) pa_nil))))) (pss_one ps_nev)
        pss_nil)
        (pss_cons (ps_if (pt_cmpR op_in_seq (pe_mG0 (pv 1) c_Parcel_name.cl c_Parcel_name.me c_Parcel_name.fn hgd (hr.mono (by decide)) c_Parcel_name.b .nil VS.pass0) (pe_mG0 (pv 0) c_Heap_names.cl c_Heap_names.me c_Heap_names.fn hgd (hr.mono (by decide)) c_Heap_names.b .nil VS.pass0) (by rfl)) (pss_one ps_nev)
        pss_nil)
        (pss_cons (ps_set (i := 3) sc_Heap_put.nd rfl (Or.inl rfl) (pe_callB c_len (by rfl) T.b_len (by decide +kernel) (pa_cons (pe_fld (pv 0) rfl) pa_nil)))
        (pss_cons (ps_if (pt_cmpR op_notNo (pv 2) pe_non (nomark _)) (pss_one ps_nev)
        pss_nil)
        (pss_cons (ps_if (pt_cmpR op_eq (pe_callB c_len (by rfl) T.b_len (by decide +kernel) (pa_cons (pe_fld (pv 0) rfl) pa_nil)) (pe_gc (by rfl) T.c_MOST_PARCELS) (nomark _)) (pss_one ps_nev)
        pss_nil)
        (pss_one (ps_expr (pe_bm PySem.F.plainAttrs_list PySem.F.slot_list_insert PySem.F.type_list_insert mt_insertV (pe_fld (pv 0) rfl) (pa_cons (pv 3) (pa_cons (pv 1) pa_nil)))))))))), ?_⟩
      (try dsimp only [cxOf, List.map])
      show VX _ _ [_, _, _, _] _ _
      unfold Pc.d
      walk_at "ga"
      refine rc_isiO (.i .v k_Parcel.ins) k_Parcel.ins.me ?_
      walk_at "ga"
      refine ⟨p.nm, p.a, p.b, p.c, p.wl, p.wt, p.br, p.mk, rfl, ?_⟩
      walk_at "ga"
      refine ⟨hh, l, ps, rfl, ⟨h1, h2⟩, by omega, ?_⟩
      refine rv_in (.l .v) rfl (flat_strs _) ?_
      rw [inD_strs, decide_eq_false hn]
      walk_at "ga"
      refine brYn (fun z => by rw [List.length_map] at z; omega) ?_
      walk_at "ga"
      refine rm_insert (n := ps.length) h2 (by rw [List.length_map]) (by rw [List.length_map]; exact Nat.le_refl _) (by rw [List.length_map]; have := szl; omega) ?_
      rw [List.take_of_length_le (by rw [List.length_map]; exact Nat.le_refl _), List.drop_of_length_le (by rw [List.length_map]; exact Nat.le_refl _), List.append_nil]
      rw [List.map_append] at q
      exact q) only [↓VS.box]
end
end LW
namespace LW
open PySem L2 C8 PySem.Spec PyProof.Rows VS
/-! ### in which ones each parcel goes -/
/-- a heap, by reference or by value, and its parcels -/
def IsHp (S : Sto) (CH CP CS : Addr) (x : D) (ps : List Pc) : Prop := ∃ d, IsI S x CH [("held", d)] ∧ IsQ S d (ps.map (Pc.d CP CS))
theorem HpS.is {S : Sto} {CH CP CS h l : Addr} {ps : List Pc} (s : HpS S CH CP CS h l ps) : IsHp S CH CP CS (.ref h) ps := ⟨.ref l, .c s.1, .l (.c s.2)⟩
theorem IsHp.ext {S S' : Sto} {CH CP CS : Addr} {x : D} {ps : List Pc} (s : IsHp S CH CP CS x ps) (e : Ext S S') : IsHp S' CH CP CS x ps := by
  obtain ⟨d, h1, h2⟩ := s
  refine ⟨d, ?_, ?_⟩
  · cases h1 with
    | v => exact .v
    | c h => exact .c (e _ _ h)
  · cases h2 with
    | t => exact .t
    | l h =>
      cases h with
      | v => exact .l .v
      | r => exact .l .r
      | c h => exact .l (.c (e _ _ h))
theorem IsHp.v {S : Sto} {CH CP CS : Addr} {ps : List Pc} : IsHp S CH CP CS (.ins CH [("held", .lst (ps.map (Pc.d CP CS)))]) ps := ⟨_, .v, .l .v⟩
def p_Hp_parcels (CH CP CS : Addr) : Pt := fun ds S G _ => ∃ x ps, ds = [x] ∧ IsHp S CH CP CS x ps ∧ G (.lst (ps.map (Pc.d CP CS))) S
section
variable {P : Program} {w : World} {K : PySem.W.Frag} {mg : Str → Option Value} {base : Heap}
theorem ok_Heap_parcels {f : Addr} {fd : FuncData} {C_Measure C_Sides C_Parcel C_Heap C_NoNumber C_NoSize C_NoMeasure C_NoSide C_NoOrder C_NoSides : Addr}
    (F : Fd K "parcels" "Heap.parcels" s_Heap_parcels [] f fd) (T : Tx K mg) (hsys : SysOk base)
    (k_Heap : Kl_Heap K mg C_Heap) :
    FnG P w K mg base (L2.CX P w) 1 f fd a_Heap_parcels (spOf K (p_Hp_parcels C_Heap C_Parcel C_Sides)) := by
  refine VS.unbox ?_
  simp (disch := with_unfolding_all
    have kc_Heap := k_Heap.ins.cl
    have ka_Heap_held := k_Heap.a_held
    refine fn_val F sc_Heap_parcels (fun ds S G Y h => ?_) (fun cdv A hgd outer s H E hr px tk po ds S G Y h => ?_)
    · obtain ⟨x, ps, rfl, _⟩ := h
      rfl
    · obtain ⟨x, ps, rfl, ⟨d, h1, h2⟩, q⟩ := h
      refine ⟨_, (pss_one (ps_ret (pe_callTy c_list (by rfl) T.b_list (by decide +kernel) (pa_cons (pe_fld (pv 0) rfl) pa_nil)))), ?_⟩
      (try dsimp only [cxOf, List.map])
      show VX _ _ [_] _ _
      walk_at "gr"
      refine ⟨_, _, _, h1, kc_Heap, ka_Heap_held, rfl, ?_⟩
      walk_at "gr"
      exact rc_list h2 q) only [↓VS.box]
end
end LW
namespace LW
open PySem L2 C8 PySem.Spec PyProof.Rows VS
theorem ok_str {n : Nat} {z : Str} (h : Asc n z) (hn : n ≤ 19) : Ok (.str z) 200 2 := ⟨(Sh.str h).mono (by omega) (by decide), by show ((pd (.str z)).canLay0 && decide ((pd (.str z)).depth ≤ 64)) = true; rw [asc_ok h.2]; rfl, nofun⟩
/-- what a thing is, as far as texts go -/
inductive StW (K : PySem.W.Frag) (S : Sto) : D → Option Str → Prop
  | s (z : Str) : StW K S (.str z) (some z)
  | o {d : D} {t : Value} (h : OfC K S d t) (k : PySem.W.kitOne K t (.type "str") = some false) : StW K S d none
/-- the data that show it -/
def stO : D → Option Str
  | .str z => some z
  | _ => none
theorem _root_.VS.Da.stw {K : PySem.W.Frag} {S : Sto} {d d' : D} (h : Da S d d') : StW K S d (stO d') := by
  cases h with
  | v p =>
    cases d with
    | str z => exact .s z
    | int i => exact .o (.p (.int i)) rfl
    | bl b => exact .o (.p (.bl b)) rfl
    | non => exact .o (.p .non) rfl
    | lst xs => exact .o (.p (.lst xs)) rfl
    | tup xs => exact .o (.p (.tup xs)) rfl
    | dK xs => exact .o (.p (.dK xs)) rfl
    | _ => cases p
  | c h p => exact .o (.p (.cl h)) rfl
  | k h p => exact .o (.p (.cd h)) rfl
end LW
namespace LW
open PySem L2 C8 PySem.Spec PyProof.Rows VS
/-! ### measures, well made -/
def kepts : List Str := ["rest", "none", "any", "x", "wall", "weight", "bears", "label", "price"]
def uD (u : Str × Int) : D := .tup [.str u.1, .int u.2]
/-- a good unit -/
structure U1 (u : Str × Int) : Prop where
  n : nmB u.1 = true
  l : u.1.length ≤ 8
  k : u.1 ∉ kepts
  p : 1 ≤ u.2 ∧ u.2 ≤ 100000
def falls (us : List (Str × Int)) : Bool := (us.zip us.tail).all fun p => decide (p.2.2 < p.1.2)
/-- good units -/
structure Ug (us : List (Str × Int)) : Prop where
  l : 1 ≤ us.length ∧ us.length ≤ 5
  u : ∀ u ∈ us, U1 u
  d : (us.map (·.1)).Nodup
  f : falls us = true
def msD (CM : Addr) (nm : Str) (us : List (Str × Int)) : D := .ins CM [("called", .str nm), ("parts", .lst (us.map uD))]
def p_is_unit : Pt := fun ds S G _ => ∃ u, ds = [uD u] ∧ U1 u ∧ G (.bl true) S
def p_are_units : Pt := fun ds S G _ => ∃ us, ds = [.lst (us.map uD)] ∧ Ug us ∧ G (.bl true) S
def p_Ms_init (CM : Addr) : Pt := fun ds S G _ => ∃ y nm us, ds = [.ref y, .str nm, .lst (us.map uD)] ∧ S y = some (.ins CM []) ∧ nmB nm = true ∧ nm.length ≤ 8 ∧ Ug us ∧ G .non (put S y (msD CM nm us))
theorem kepts_in {m : Str} : inD (.str m) [.str "rest", .str "none", .str "any", .str "x", .str "wall", .str "weight", .str "bears", .str "label", .str "price"] = decide (m ∈ kepts) := by
  show inD (.str m) (kepts.map D.str) = _
  exact inD_strs kepts
theorem isPL_us : ∀ us : List (Str × Int), isPL (us.map uD) = true
  | [] => rfl
  | u :: us => by
    rw [List.map_cons]
    show (isP (uD u) && isPL (us.map uD)) = true
    rw [isPL_us us]
    rfl
theorem isP_us (us : List (Str × Int)) : isP (.lst (us.map uD)) = true := isPL_us us
theorem cut1 (xs : List D) : cutD xs (some 1) none = xs.tail := by
  show (xs.drop (HT.sIx xs.length 0 (some ((1 : Nat) : Int)))).take (xs.length - HT.sIx xs.length 0 (some ((1 : Nat) : Int))) = xs.tail
  rw [HT.sIx_nat]
  cases xs with
  | nil => rfl
  | cons x xs =>
    have e : min 1 (x :: xs).length = 1 := Nat.min_eq_left (by rw [List.length_cons]; omega)
    rw [e]
    show xs.take ((x :: xs).length - 1) = xs
    rw [List.length_cons, Nat.add_sub_cancel, List.take_length]
def sndLt : D → D
  | .tup [.tup [_, .int a], .tup [_, .int b]] => .bl (decide (b < a))
  | _ => .non
section
variable {P : Program} {w : World} {K : PySem.W.Frag} {mg : Str → Option Value} {base : Heap}
theorem ok_is_unit {f : Addr} {fd : FuncData} {C_Measure C_Sides C_Parcel C_Heap C_NoNumber C_NoSize C_NoMeasure C_NoSide C_NoOrder C_NoSides : Addr} {f_is_name f_is_whole : Addr} {g_is_name g_is_whole : FuncData}
    (F : Fd K "is_unit" "is_unit" s_is_unit [] f fd) (T : Tx K mg) (hsys : SysOk base)
    (c_is_name : Cf P w K mg base (L2.CX P w) 1 "is_name" s_is_name [] a_is_name (p_is_name K) f_is_name g_is_name)
    (c_is_whole : Cf P w K mg base (L2.CX P w) 1 "is_whole" s_is_whole [] a_is_whole (p_is_whole K) f_is_whole g_is_whole) :
    FnG P w K mg base (L2.CX P w) 2 f fd a_is_unit (spOf K p_is_unit) := by
  refine VS.unbox ?_
  simp (disch := with_unfolding_all
    refine fn_val F sc_is_unit (fun ds S G Y h => ?_) (fun cdv A hgd outer s H E hr px tk po ds S G Y h => ?_)
    · obtain ⟨u, rfl, _⟩ := h
      rfl
    · obtain ⟨u, rfl, g, q⟩ := h
      obtain ⟨aK, hK, rK⟩ := T.c_KEPT
      refine ⟨_, (pss_cons (ps_if (PW.pt (pw_or (pt_not (pt_val (pe_callB c_isiZ (by rfl) T.b_isinstance (by decide +kernel) (pa_cons (pv 0) (pa_cons (pe_bltn (v := .ty "tuple") (by rfl) T.b_tuple (by decide +kernel) rfl) pa_nil))))) (pw_or1 (pt_cmpR op_ne (pe_callB c_len (by rfl) T.b_len (by decide +kernel) (pa_cons (pv 0) pa_nil)) pe_int (nomark _))))) (pss_one (ps_ret pe_bl))
        pss_nil)
        (pss_one (ps_ret (pe_and (pe_cG c_is_name.fn hgd (hr.mono (by decide)) (by rfl) c_is_name.mg c_is_name.kp c_is_name.b .nil VS.pass0 (pa_cons (pe_ix ix_tup (pv 0) pe_int (fun _ _ => rfl)) pa_nil)) (pe_and (pe_cmpR op_notIn_seq (pe_ix ix_tup (pv 0) pe_int (fun _ _ => rfl)) (pe_kd (by rfl) hK) (by rfl)) (pe_one (pe_cG c_is_whole.fn hgd (hr.mono (by decide)) (by rfl) c_is_whole.mg c_is_whole.kp c_is_whole.b .nil VS.pass0 (pa_cons (pe_ix ix_tup (pv 0) pe_int (fun _ _ => rfl)) (pa_cons pe_int (pa_cons (pe_gc (by rfl) T.c_MOST_POINTS) pa_nil)))))))))), ?_⟩
      (try dsimp only [cxOf, List.map])
      show VX _ _ [_] _ _
      unfold uD
      walk_at "ga"
      refine name_ok g.n (Nat.le_trans g.l (by decide)) ?_
      walk_at "ga"
      refine rv_in .t rfl rfl ?_
      rw [kepts_in, decide_eq_false g.k]
      walk_at "ga"
      exact wh_ok g.p q) only [↓VS.box]
theorem ok_are_units {f : Addr} {fd : FuncData} {C_Measure C_Sides C_Parcel C_Heap C_NoNumber C_NoSize C_NoMeasure C_NoSide C_NoOrder C_NoSides : Addr} {f_is_unit : Addr} {g_is_unit : FuncData}
    (F : Fd K "are_units" "are_units" s_are_units [] f fd) (T : Tx K mg) (hsys : SysOk base)
    (c_is_unit : Cf P w K mg base (L2.CX P w) 2 "is_unit" s_is_unit [] a_is_unit p_is_unit f_is_unit g_is_unit) :
    FnG P w K mg base (L2.CX P w) 3 f fd a_are_units (spOf K p_are_units) := by
  refine VS.unbox ?_
  simp (disch := with_unfolding_all
    refine fn_val F sc_are_units (fun ds S G Y h => ?_) (fun cdv A hgd outer s H E hr px tk po ds S G Y h => ?_)
    · obtain ⟨us, rfl, _⟩ := h
      rfl
    · obtain ⟨us, rfl, g, q⟩ := h
      refine ⟨_, (pss_cons (ps_if (PW.pt (pw_or (pt_not (pt_val (pe_callB c_isiV (by rfl) T.b_isinstance (by decide +kernel) (pa_cons (pv 0) (pa_cons (pe_tup (pa_cons (pe_bltn (v := .ty "list") (by rfl) T.b_list (by decide +kernel) rfl) (pa_cons (pe_bltn (v := .ty "tuple") (by rfl) T.b_tuple (by decide +kernel) rfl) pa_nil))) pa_nil))))) (pw_or1 (pt_not (pt_chain op_le op_le pe_int (pe_callB c_len (by rfl) T.b_len (by decide +kernel) (pa_cons (pv 0) pa_nil)) pe_int))))) (pss_one (ps_ret pe_bl))
        pss_nil)
        (pss_cons (ps_if (pt_not (pt_val (pe_callB (cr_all rfl) (by rfl) T.b_all (by decide +kernel) (pa_cons (pe_lc (own := [("unit", 2)]) rfl sc_are_units.nd (pi_list (pv 0)) (blkOk_by (own := [("unit", 2)]) (N := n_are_units) (sc := defScope s_are_units) (by decide +kernel)) (fun _ _ _ _ _ => (pg_name (i := 2) sc_are_units.nd rfl (Or.inl rfl))) (fun _ _ _ _ _ => pts_nil) (fun _ _ _ _ _ => (pe_cG c_is_unit.fn hgd (hr.mono (by decide)) (by rfl) c_is_unit.mg c_is_unit.kp c_is_unit.b .nil VS.pass0 (pa_cons (pv 2) pa_nil)))) pa_nil)))) (pss_one (ps_ret pe_bl))
        pss_nil)
        (pss_cons (ps_setLc (i := 1) (own := [("unit", 2)]) rfl sc_are_units.nd rfl rfl (sw_true rfl rfl rfl (by decide +kernel)) (pi_list (pv 0)) (blkOk_by (own := [("unit", 2)]) (N := n_are_units) (sc := defScope s_are_units) (by decide +kernel)) (fun _ _ _ _ _ => (pg_name (i := 2) sc_are_units.nd rfl (Or.inl rfl))) (fun _ _ _ _ _ => pts_nil) (fun _ _ _ _ _ => (pe_ix (kI (K := K) (r := rIxT) ix_tup) (pv 2) pe_int (fun _ _ => rfl))))
        (pss_cons (ps_if (pt_cmpR op_lt (pe_lenS (by rfl) T.b_len (by rfl) T.b_set (pv 1)) (pe_callB c_len (by rfl) T.b_len (by decide +kernel) (pa_cons (pv 1) pa_nil)) (nomark _)) (pss_one (ps_ret pe_bl))
        pss_nil)
        (pss_one (ps_ret (pe_callB (cr_all rfl) (by rfl) T.b_all (by decide +kernel) (pa_cons (pe_lc (own := [("greater", 3), ("lesser", 4)]) rfl sc_are_units.nd (pi_zip (by rfl) T.b_zip (pa_cons (pv 0) (pa_cons (pe_slice sl_list (pv 0) (po_some pe_int) po_none) pa_nil))) (blkOk_by (own := [("greater", 3), ("lesser", 4)]) (N := n_are_units) (sc := defScope s_are_units) (by decide +kernel)) (fun _ _ _ _ _ => (kTup (K := K) (pg_tup (n := 2) rfl (pgs_cons (pg_name (i := 3) sc_are_units.nd rfl (Or.inl rfl)) (pgs_cons (pg_name (i := 4) sc_are_units.nd rfl (Or.inl rfl)) pgs_nil))))) (fun _ _ _ _ _ => pts_nil) (fun _ _ _ _ _ => (pe_cmpR op_lt (pe_ix (kI (K := K) (r := rIxT) ix_tup) (pv 4) pe_int (fun _ _ => rfl)) (pe_ix (kI (K := K) (r := rIxT) ix_tup) (pv 3) pe_int (fun _ _ => rfl)) (nomark _)))) pa_nil)))))))), ?_⟩
      (try dsimp only [cxOf, List.map])
      show VX _ _ [_, _, _, _, _] _ _
      walk_at "ga"
      refine rc_isiLT (.v (isP_us us)) ?_
      walk_at "ga"
      have h1 := g.l.1
      have h2 := g.l.2
      have el : (us.map uD).length = us.length := List.length_map ..
      rw [el]
      refine ⟨fun _ => ?_, fun z => by rw [decide_eq_true (by omega : (1 : Int) ≤ us.length)] at z; cases z⟩
      walk_at "ga"
      refine ⟨fun z => (by rw [decide_eq_true (by omega : (us.length : Int) ≤ 5)] at z; cases z), fun _ => ?_⟩
      walk_at "ga"
      refine ve_lcM (fun _ => .bl true) (vi_list ?_)
      walk_at "ga"
      refine ⟨_, .v, by rw [el]; omega, fun x hx => ?_, ?_⟩
      · obtain ⟨u, hu, rfl⟩ := List.mem_map.mp hx
        walk_at "ga"
        refine ⟨rfl, ?_⟩
        walk_at "ga"
        exact ⟨u, rfl, g.u u hu, rfl, rfl⟩
      walk_at "ga"
      refine rc_all (bs := us.map fun _ => true) (by rw [List.map_map, List.map_map]; exact .v) ?_
      have al : (us.map fun _ => true).all id = true := by
        rw [List.all_eq_true]
        intro b hb
        obtain ⟨_, _, rfl⟩ := List.mem_map.mp hb
        rfl
      rw [al]
      walk_at "ga"
      refine ve_lcM (fun x => match x with | .tup [n, _] => n | _ => .non) (vi_list ?_)
      walk_at "ga"
      refine ⟨_, .v, by rw [el]; omega, fun x hx => ?_, ?_⟩
      · obtain ⟨u, hu, rfl⟩ := List.mem_map.mp hx
        unfold uD
        walk_at "ga"
        refine ⟨rfl, ?_⟩
        walk_at "ga"
        exact ⟨rfl, rfl⟩
      have en : (us.map uD).map (fun x => match x with | .tup [n, _] => n | _ => .non) = (us.map (·.1)).map D.str := by
        rw [List.map_map, List.map_map]
        rfl
      rw [en]
      walk_at "ga"
      refine ve_lenS ?_
      walk_at "ga"
      have en1 : (us.map (·.1)).length = us.length := List.length_map ..
      refine ⟨us.map (·.1), .l .v, by rw [en1]; omega, ?_⟩
      rw [unl_nodup g.d _ (Nat.le_refl _), en1]
      walk_at "ga"
      rw [List.length_map, en1]
      refine ⟨fun z => (by rw [decide_eq_false (by omega : ¬ (us.length : Int) < us.length)] at z; cases z), fun _ => ?_⟩
      walk_at "ga"
      refine ve_lcM sndLt (vi_zip ?_)
      walk_at "ga"
      refine ⟨_, _, _, _, rfl, .v, .v, by rw [zipD_len, el]; omega, ?_⟩
      rw [cut1]
      have ez : zipD (us.map uD) (us.map uD).tail = (us.zip us.tail).map fun p => D.tup [uD p.1, uD p.2] := by
        unfold zipD
        rw [← List.map_tail, List.zip_map, List.map_map]
        rfl
      rw [ez]
      refine ⟨fun x hx => ?_, ?_⟩
      · obtain ⟨⟨u, v⟩, hp, rfl⟩ := List.mem_map.mp hx
        unfold uD
        walk_at "ga"
        refine ⟨rfl, ?_⟩
        walk_at "ga"
        exact ⟨rfl, rfl⟩
      walk_at "ga"
      refine rc_all (bs := (us.zip us.tail).map fun p => decide (p.2.2 < p.1.2)) (by rw [List.map_map, List.map_map]; exact .v) ?_
      have e := g.f
      unfold falls at e
      rw [List.all_map, show (us.zip us.tail).all (id ∘ fun p => decide (p.2.2 < p.1.2)) = true from e]
      exact q) only [↓VS.box]
theorem ok_Measure___init__ {f : Addr} {fd : FuncData} {C_Measure C_Sides C_Parcel C_Heap C_NoNumber C_NoSize C_NoMeasure C_NoSide C_NoOrder C_NoSides : Addr} {f_is_name f_are_units : Addr} {g_is_name g_are_units : FuncData}
    (F : Fd K "__init__" "Measure.__init__" s_Measure___init__ [] f fd) (T : Tx K mg) (hsys : SysOk base)
    (c_is_name : Cf P w K mg base (L2.CX P w) 1 "is_name" s_is_name [] a_is_name (p_is_name K) f_is_name g_is_name)
    (c_are_units : Cf P w K mg base (L2.CX P w) 3 "are_units" s_are_units [] a_are_units p_are_units f_are_units g_are_units)
    (k_Measure : Kl_Measure K mg C_Measure) :
    FnG P w K mg base (L2.CX P w) 4 f fd a_Measure___init__ (spOf K (p_Ms_init C_Measure)) := by
  refine VS.unbox ?_
  simp (disch := with_unfolding_all
    have kc_Measure := k_Measure.ins.cl
    have ka_Measure_called := k_Measure.a_called
    have ka_Measure_parts := k_Measure.a_parts
    refine fn_val F sc_Measure___init__ (fun ds S G Y h => ?_) (fun cdv A hgd outer s H E hr px tk po ds S G Y h => ?_)
    · obtain ⟨y, nm, us, rfl, _⟩ := h
      rfl
    · obtain ⟨y, nm, us, rfl, hy, hn, hl, g, q⟩ := h
      refine ⟨_, (pss_cons (ps_if (pt_not (pt_val (pe_cG c_is_name.fn hgd (hr.mono (by decide)) (by rfl) c_is_name.mg c_is_name.kp c_is_name.b .nil VS.pass0 (pa_cons (pv 1) pa_nil)))) (pss_one ps_nev)
        pss_nil)
        (pss_cons (ps_if (pt_not (pt_val (pe_cG c_are_units.fn hgd (hr.mono (by decide)) (by rfl) c_are_units.mg c_are_units.kp c_are_units.b .nil VS.pass0 (pa_cons (pv 2) pa_nil)))) (pss_one ps_nev)
        pss_nil)
        (pss_cons (ps_fld (pv 0) (pv 1) rfl)
        (pss_one (ps_fld (pv 0) (pe_callTy c_list (by rfl) T.b_list (by decide +kernel) (pa_cons (pv 2) pa_nil)) rfl))))), ?_⟩
      (try dsimp only [cxOf, List.map])
      show VX _ _ [_, _, _] _ _
      walk_at "ga"
      refine name_ok hn (Nat.le_trans hl (by decide)) ?_
      walk_at "ga"
      refine ⟨us, rfl, g, ?_⟩
      walk_at "ga"
      refine ⟨y, C_Measure, _, rfl, put_same, kc_Measure, ka_Measure_parts, by show 1 < 1000; decide, ?_⟩
      rw [put_put]
      exact q) only [↓VS.box]
end
end LW
namespace LW
open PySem L2 C8 PySem.Spec PyProof.Rows VS
/-! ### a measure's units; a size written -/
def nS (i : Int) : Str := Str.ofString (toString i)
def txStep (st : List Str × Int) (u : Str × Int) : List Str × Int := (st.1 ++ (if 0 < st.2 / u.2 then [nS (st.2 / u.2), u.1] else []), st.2 % u.2)
def txF (us : List (Str × Int)) (n : Int) : List Str × Int := us.foldl txStep ([], n)
def txW (us : List (Str × Int)) (n : Int) : List Str := (txF us n).1 ++ (if 0 < (txF us n).2 then [("rest" : Str), nS (txF us n).2] else [])
def txS (us : List (Str × Int)) (n : Int) : Str := if txW us n = [] then "none" else Txt.join " " (txW us n)
theorem nS_asc {i : Int} (h0 : 0 ≤ i) (h1 : i ≤ 1000000) : Asc 8 (nS i) := Asc.num h0 (by decide) (by omega)
theorem U1.asc {u : Str × Int} (g : U1 u) : Asc 8 u.1 := by
  refine ⟨g.l, fun c hc => ?_⟩
  have h := g.n
  unfold nmB at h
  rw [Bool.and_eq_true] at h
  have h2 := List.all_eq_true.mp h.2 c hc
  have := (lcN_iff.mp h2).2
  omega
structure TxOk (k : Nat) (st : List Str × Int) : Prop where
  r : 0 ≤ st.2 ∧ st.2 ≤ 1000000
  l : st.1.length ≤ 2 * k
  a : ∀ y ∈ st.1, Asc 8 y
theorem div_b {n e : Int} (h0 : 0 ≤ n) (h1 : 1 ≤ e) : 0 ≤ n / e ∧ n / e ≤ n ∧ 0 ≤ n % e ∧ n % e ≤ n ∧ n % e < e := by
  have a := Int.ediv_nonneg h0 (by omega : 0 ≤ e)
  have b := Int.ediv_le_self e h0
  have c := Int.emod_nonneg n (by omega : e ≠ 0)
  have d := Int.emod_lt_of_pos n (by omega : 0 < e)
  have e1 := Int.emod_le_of_nonneg_of_nonneg' n e h0 (by omega)
  exact ⟨a, b, c, e1, d⟩
where
  Int.emod_le_of_nonneg_of_nonneg' (n e : Int) (h0 : 0 ≤ n) (h1 : 0 < e) : n % e ≤ n := by
    have := Int.mul_ediv_add_emod n e
    have h2 := Int.mul_nonneg (by omega : 0 ≤ e) (Int.ediv_nonneg h0 (by omega : 0 ≤ e))
    omega
theorem TxOk.step {k : Nat} {st : List Str × Int} {u : Str × Int} (h : TxOk k st) (g : U1 u) : TxOk (k + 1) (txStep st u) := by
  obtain ⟨a, b, c, d, _⟩ := div_b h.r.1 g.p.1
  have hr := h.r
  refine ⟨⟨c, by show st.2 % u.2 ≤ _; omega⟩, ?_, fun y hy => ?_⟩
  · show (st.1 ++ _).length ≤ _
    have := h.l
    rw [List.length_append]
    split <;> simp <;> omega
  · rcases List.mem_append.mp hy with hy | hy
    · exact h.a y hy
    · split at hy
      · simp only [List.mem_cons, List.not_mem_nil, or_false] at hy
        rcases hy with rfl | rfl
        · exact nS_asc a (by omega)
        · exact g.asc
      · cases hy
theorem tx_ok : ∀ {us : List (Str × Int)} {k : Nat} {st : List Str × Int}, (∀ u ∈ us, U1 u) → TxOk k st → TxOk (k + us.length) (us.foldl txStep st)
  | [], _, _, _, h => h
  | u :: us, k, st, g, h => by
    have := tx_ok (us := us) (fun v hv => g v (List.mem_cons_of_mem _ hv)) (h.step (g u List.mem_cons_self))
    rw [show k + (u :: us).length = k + 1 + us.length by rw [List.length_cons]; omega]
    exact this
theorem txF_ok {us : List (Str × Int)} {n : Int} (g : ∀ u ∈ us, U1 u) (h : 0 ≤ n ∧ n ≤ 1000000) : TxOk us.length (txF us n) := by
  have := tx_ok (k := 0) (st := ([], n)) g ⟨h, Nat.le_refl _, nofun⟩
  rw [Nat.zero_add] at this
  exact this
theorem txF_take {us : List (Str × Int)} {n : Int} {i : Nat} {u : Str × Int} (h : us[i]? = some u) : txF (us.take (i + 1)) n = txStep (txF (us.take i) n) u := by
  unfold txF
  rw [List.take_succ, h, List.foldl_append]
  rfl
theorem txW_ok {us : List (Str × Int)} {n : Int} (g : Ug us) (h : 0 ≤ n ∧ n ≤ 1000000) : (txW us n).length ≤ 12 ∧ ∀ y ∈ txW us n, Asc 8 y := by
  have t := txF_ok g.u h
  have l := t.l
  have g2 := g.l.2
  unfold txW
  refine ⟨?_, fun y hy => ?_⟩
  · rw [List.length_append]
    split <;> simp <;> omega
  · rcases List.mem_append.mp hy with hy | hy
    · exact t.a y hy
    · split at hy
      · simp only [List.mem_cons, List.not_mem_nil, or_false] at hy
        rcases hy with rfl | rfl
        · exact ⟨by decide, by decide +kernel⟩
        · exact nS_asc t.r.1 t.r.2
      · cases hy
theorem txS_asc {us : List (Str × Int)} {n : Int} (g : Ug us) (h : 0 ≤ n ∧ n ≤ 1000000) : Asc 108 (txS us n) := by
  obtain ⟨a, b⟩ := txW_ok g h
  unfold txS
  split
  · exact ⟨by decide, by decide +kernel⟩
  · exact (Asc.joinS (n := 8) (m := 1) (s := (" " : Str)) ⟨by decide, by decide +kernel⟩ b).mono (by have : (8 + 1) * (txW us n).length ≤ 9 * 12 := Nat.mul_le_mul_left _ a; omega)
def p_Ms_text (K : PySem.W.Frag) (CM CN : Addr) : Pt := fun ds S G Y => ∃ nm us d o, ds = [msD CM nm us, d] ∧ Ug us ∧ Wh K S d o ∧ (whB o 0 1000000 = false → Y CN [("found", d)] S) ∧ (∀ i, d = .int i → 0 ≤ i → i ≤ 1000000 → G (.str (txS us i)) S)
section
variable {P : Program} {w : World} {K : PySem.W.Frag} {mg : Str → Option Value} {base : Heap}
theorem ok_Measure_text {f : Addr} {fd : FuncData} {C_Measure C_Sides C_Parcel C_Heap C_NoNumber C_NoSize C_NoMeasure C_NoSide C_NoOrder C_NoSides : Addr} {f_is_whole : Addr} {g_is_whole : FuncData}
    (F : Fd K "text" "Measure.text" s_Measure_text [] f fd) (T : Tx K mg) (hsys : SysOk base)
    (c_is_whole : Cf P w K mg base (L2.CX P w) 1 "is_whole" s_is_whole [] a_is_whole (p_is_whole K) f_is_whole g_is_whole)
    (x_NoNumber : Xc P w K mg base "NoNumber" C_NoNumber "found")
    (k_Measure : Kl_Measure K mg C_Measure) :
    FnG P w K mg base (L2.CX P w) 3 f fd a_Measure_text (spOf K (p_Ms_text K C_Measure C_NoNumber)) := by
  refine VS.unbox ?_
  simp (disch := with_unfolding_all
    have kc_Measure := k_Measure.ins.cl
    have ka_Measure_called := k_Measure.a_called
    have ka_Measure_parts := k_Measure.a_parts
    refine fn_val F sc_Measure_text (fun ds S G Y h => ?_) (fun cdv A hgd outer s H E hr px tk po ds S G Y h => ?_)
    · obtain ⟨nm, us, d, o, rfl, _⟩ := h
      rfl
    · obtain ⟨nm, us, d, o, rfl, g, hw, qy, q⟩ := h
      refine ⟨_, (pss_cons (ps_if (pt_not (pt_val (pe_cG c_is_whole.fn hgd (hr.mono (by decide)) (by rfl) c_is_whole.mg c_is_whole.kp c_is_whole.b .nil VS.pass0 (pa_cons (pv 1) (pa_cons pe_int (pa_cons (pe_gc (by rfl) T.c_MOST_SIZE) pa_nil)))))) (pss_one (ps_rz tk x_NoNumber (hr.mono (by decide)) (by rfl) (pv 1)))
        pss_nil)
        (pss_cons (ps_set (i := 2) sc_Measure_text.nd rfl (Or.inl rfl) (pe_lst pa_nil))
        (pss_cons (ps_set (i := 3) sc_Measure_text.nd rfl (Or.inl rfl) (pv 1))
        (pss_cons (ps_for po rfl (pi_list (pe_fld (pv 0) rfl)) (pg_tup (n := 2) rfl (pgs_cons (pg_name (i := 4) sc_Measure_text.nd rfl (Or.inl rfl)) (pgs_cons (pg_name (i := 5) sc_Measure_text.nd rfl (Or.inl rfl)) pgs_nil)))
        (pss_cons (ps_asg (pe_callB VS.c_divmod (by rfl) T.b_divmod (by decide +kernel) (pa_cons (pv 3) (pa_cons (pv 5) pa_nil))) (pg_tup (n := 2) rfl (pgs_cons (pg_name (i := 6) sc_Measure_text.nd rfl (Or.inl rfl)) (pgs_cons (pg_name (i := 3) sc_Measure_text.nd rfl (Or.inl rfl)) pgs_nil))))
        (pss_one (ps_if (pt_cmpR op_gt (pv 6) pe_int (nomark _)) (pss_one (ps_expr (pe_bm PySem.F.plainAttrs_list PySem.F.slot_list_extend PySem.F.type_list_extend mt_extend (pv 2) (pa_cons (pe_lst (pa_cons (pe_callTy c_strInt (by rfl) T.b_str (by decide +kernel) (pa_cons (pv 6) pa_nil)) (pa_cons (pv 4) pa_nil))) pa_nil))))
        pss_nil))))
        (pss_cons (ps_if (pt_cmpR op_gt (pv 3) pe_int (nomark _)) (pss_one (ps_expr (pe_bm PySem.F.plainAttrs_list PySem.F.slot_list_extend PySem.F.type_list_extend mt_extend (pv 2) (pa_cons (pe_lst (pa_cons pe_str (pa_cons (pe_callTy c_strInt (by rfl) T.b_str (by decide +kernel) (pa_cons (pv 3) pa_nil)) pa_nil))) pa_nil))))
        pss_nil)
        (pss_one (ps_ret (pe_m1 PySem.F.slot_str_join PySem.F.type_str_join m_join pe_str (pe_orT (pv 2) (pe_one (pe_lst (pa_cons pe_str pa_nil)))))))))))), ?_⟩
      (try dsimp only [cxOf, List.map])
      show VX _ _ [_, _, _, _, _, _, _] _ _
      walk_at "gr"
      refine ⟨d, o, 0, 1000000, rfl, hw, ?_⟩
      walk_at "gr"
      refine brB (fun h1 => ?_) (fun h1 => ?_)
      · walk_at "gr"
        exact qy h1
      obtain ⟨i, rfl, i0, i1⟩ := whB_yes h1
      obtain rfl := hw.some
      have q := q i rfl i0 i1
      clear qy hw h1
      walk_at "gr"
      refine ve_lstc ?_
      walk_at "gr"
      intro l hl
      walk_at "gr"
      refine vx_for (vi_list ?_)
      walk_at "gr"
      refine ⟨_, .v, fun j ρ2 S2 => S2 = put S l (.lst ((txF (us.take j) i).1.map D.str)) ∧ ∃ x4 x5 x6, ρ2 = [some (msD C_Measure nm us), some (.int i), some (.ref l), some (.int (txF (us.take j) i).2), x4, x5, x6], ⟨rfl, _, _, _, rfl⟩, ?_, ?_⟩
      · rintro j d ρ2 S2 hd ⟨rfl, x4, x5, x6, rfl⟩
        rw [List.getElem?_map] at hd
        obtain ⟨u, hu, rfl⟩ := Option.map_eq_some_iff.mp hd
        have gu := g.u u (List.mem_of_getElem? hu)
        have t := txF_ok (us := us.take j) (fun v hv => g.u v (List.mem_of_mem_take hv)) ⟨i0, i1⟩
        have tl := t.l
        have hj : j < us.length := (List.getElem?_eq_some_iff.mp hu).1
        have g2 := g.l.2
        have lt : (us.take j).length = j := by rw [List.length_take]; omega
        rw [lt] at tl
        have et := txF_take (n := i) hu
        have e1 : (txF (us.take (j + 1)) i).1 = (txF (us.take j) i).1 ++ (if 0 < (txF (us.take j) i).2 / u.2 then [nS ((txF (us.take j) i).2 / u.2), u.1] else []) := by rw [et]; rfl
        have e2 : (txF (us.take (j + 1)) i).2 = (txF (us.take j) i).2 % u.2 := by rw [et]; rfl
        clear et
        generalize txF (us.take j) i = st at t tl e1 e2 ⊢
        obtain ⟨a, b, c, dd, ee⟩ := div_b t.r.1 gu.p.1
        have hr := t.r
        have gp := gu.p
        obtain ⟨z, e⟩ := u
        dsimp only at a b c dd ee gp e1 e2 ⊢
        unfold uD
        walk_at "gr"
        refine rc_divmod ⟨by omega, by omega⟩ ?_
        walk_at "gr"
        refine VS.br (fun h2 => ?_) (fun h2 => ?_)
        · rw [if_pos h2] at e1
          walk_at "gr"
          refine ve_lst ?_
          walk_at "gr"
          refine rc_strI64 (i := st.2 / e) (by omega) ?_
          walk_at "gr"
          refine rm_extend (ds := st.1.map D.str) (es := [.str (nS (st.2 / e)), .str z]) put_same .v (by rw [List.length_map]; have := szl; show _ + 2 ≤ sizeLine; omega) ?_
          rw [put_put]
          exact ⟨by rw [e1, List.map_append]; rfl, _, _, _, by rw [e2] <;> rfl⟩
        · rw [if_neg h2, List.append_nil] at e1
          walk_at "gr"
          exact ⟨by rw [e1], _, _, _, by rw [e2] <;> rfl⟩
      · rintro ρ2 S2 ⟨rfl, x4, x5, x6, rfl⟩
        rw [List.length_map, List.take_length]
        have t := txF_ok g.u ⟨i0, i1⟩ (n := i)
        obtain ⟨wl, wa⟩ := txW_ok g ⟨i0, i1⟩ (n := i)
        have et : (txW us i) = (txF us i).1 ++ (if 0 < (txF us i).2 then [("rest" : Str), nS (txF us i).2] else []) := rfl
        have tl := t.l
        have tr := t.r
        have g2 := g.l.2
        refine vx_join (fun ρ' S' => S' = put S l (.lst ((txW us i).map D.str)) ∧ ∃ x3, ρ' = [some (msD C_Measure nm us), some (.int i), some (.ref l), x3, x4, x5, x6]) ?_ ?_
        · rw [et]
          walk_at "gr"
          refine VS.br (fun h2 => ?_) (fun h2 => ?_)
          · rw [if_pos h2]
            walk_at "gr"
            refine ve_lst ?_
            walk_at "gr"
            refine rm_extend (ds := (txF us i).1.map D.str) (es := [.str "rest", .str (nS (txF us i).2)]) put_same .v (by rw [List.length_map]; have := szl; show _ + 2 ≤ sizeLine; omega) ?_
            rw [put_put, List.map_append]
            exact ⟨rfl, _, rfl⟩
          · rw [if_neg h2, List.append_nil]
            walk_at "gr"
            exact ⟨rfl, _, rfl⟩
        · clear tl tr t et
          rintro _ _ ⟨rfl, x3, rfl⟩
          refine vx_freeze 2 rfl put_same ?_
          rw [del_put hl]
          have q : G (.str (txS us i)) S := q
          unfold txS at q
          generalize txW us i = ys at wl wa q ⊢
          walk_at "gr"
          refine ⟨_, .v, fun ne => ?_, fun e => ?_⟩
          · rw [if_neg (fun z => ne (by rw [z]; rfl))] at q
            refine rm_join (.l .v) ?_ q
            have := sum_le fun y hy => (wa y hy).1
            rw [show (Str.ofString " ").length = 1 from by decide]
            omega
          · rw [if_pos (List.map_eq_nil_iff.mp e)] at q
            walk_at "gr"
            refine ve_lst ?_
            walk_at "gr"
            refine rm_join (ys := ["none"]) (.l .v) (by decide +kernel) ?_
            rw [show Txt.join (Str.ofString " ") [("none" : Str)] = "none" from by decide +kernel]
            exact q) only [↓VS.box]
end
end LW
namespace LW
open PySem L2 C8 PySem.Spec PyProof.Rows VS
/-! ### a thing of a list; all of a list -/
theorem pick (Q : D → Prop) {xs : List D} {i : Int} (h0 : 0 ≤ i) (h1 : i < xs.length) (all : ∀ x ∈ xs, Q x) : ∃ x, atI xs i = some x ∧ Q x := by
  obtain ⟨x, hx, e⟩ := atI_mem h0 h1
  exact ⟨x, e, all x hx⟩
theorem ac {Q : D → Prop} {a : D} {l : List D} (h : Q a) (t : ∀ x ∈ l, Q x) : ∀ x ∈ a :: l, Q x := fun x hx => by
  rcases List.mem_cons.mp hx with rfl | hx
  · exact h
  · exact t x hx
theorem an {Q : D → Prop} : ∀ x ∈ ([] : List D), Q x := nofun
theorem rv_ixAll {c : VS.Ctx} {S : Sto} {F : D → Sto → Prop} (Q : D → Prop) {xs : List D} {i : Int} (h0 : 0 ≤ i) (h1 : i < xs.length) (all : ∀ x ∈ xs, Q x) (q : ∀ x, Q x → F x S) : RV c (rIxL c.K) (.lst xs) (.int i) S F := by
  obtain ⟨x, ea, hx⟩ := pick Q h0 h1 all
  exact rv_ixL .v ea (q x hx)
theorem Pu.ext {S S' : Sto} {p : Addr} {n : Int} (h : Pu S p n) (x : Ext S S') : Pu S' p n := by
  obtain ⟨a, b, c, e, r⟩ := h
  exact ⟨a, b, c, x _ _ e, r⟩
end LW
namespace LW
open PySem L2 C8 PySem.Spec PyProof.Rows VS
/-! ### the number of a text -/
def okN (a : List Nat) : Bool := (decide (1 ≤ a.length) && decide (a.length ≤ 7)) && (a.all (fun c => decide (48 ≤ c ∧ c ≤ 57)) && !(decide (a.headD 0 = 48) && decide (1 < a.length)))
theorem okN_iff {a : List Nat} : okN a = true ↔ 1 ≤ a.length ∧ a.length ≤ 7 ∧ NumText.AllDigits a ∧ ¬ (a.headD 0 = 48 ∧ 1 < a.length) := by
  unfold okN
  simp only [Bool.and_eq_true, decide_eq_true_eq, List.all_eq_true, Bool.not_eq_true', Bool.and_eq_false_iff, decide_eq_false_iff_not]
  constructor
  · rintro ⟨⟨a1, a2⟩, a3, a4⟩
    exact ⟨a1, a2, fun c hc => a3 c hc, fun z => a4.elim (fun y => y z.1) (fun y => y z.2)⟩
  · rintro ⟨a1, a2, a3, a4⟩
    refine ⟨⟨a1, a2⟩, fun c hc => a3 c hc, ?_⟩
    by_cases h : a.headD 0 = 48
    · exact .inr fun z => a4 ⟨h, z⟩
    · exact .inl h
def numO (s : Str) : Option Int := if okN s.cps.toList = true then some (NumText.digitsVal s.cps.toList : Nat) else none
def oI : Option Int → D
  | some i => .int i
  | none => .non
def OkN (a : List Nat) : Prop := 1 ≤ a.length ∧ a.length ≤ 7 ∧ NumText.AllDigits a ∧ ¬ (a.headD 0 = 48 ∧ 1 < a.length)
def numD (s : Str) : D := oI (numO s)
theorem numD_no {s : Str} (h : ¬ OkN s.cps.toList) : numD s = .non := by unfold numD numO; rw [if_neg fun z => h (okN_iff.mp z)]; rfl
theorem numD_yes {s : Str} (h : OkN s.cps.toList) : numD s = .int (NumText.digitsVal s.cps.toList : Nat) := by unfold numD numO; rw [if_pos (okN_iff.mpr h)]; rfl
theorem numO_yes {s : Str} (h : OkN s.cps.toList) : numO s = some ((NumText.digitsVal s.cps.toList : Nat) : Int) := if_pos (okN_iff.mpr h)
theorem figs {n : Nat} : n ∈ ("0123456789" : Str).cps.toList ↔ 48 ≤ n ∧ n ≤ 57 := by
  have e : ("0123456789" : Str).cps.toList = [48, 49, 50, 51, 52, 53, 54, 55, 56, 57] := by decide +kernel
  rw [e]
  simp
  omega
def p_number_of (K : PySem.W.Frag) : Pt := fun ds S G _ => ∃ d, ds = [d] ∧ ((∃ s, d = .str s ∧ s.length ≤ 100000 ∧ G (numD s) S) ∨ ∃ t, OfC K S d t ∧ PySem.W.kitOne K t (.type "str") = some false ∧ G .non S)
theorem numL_head : ∀ m : Nat, 10 ≤ m → (TL.numL m).headD 0 ≠ 48 := by
  intro m
  induction m using Nat.strongRecOn with
  | ind m ih =>
    intro h
    rw [TL.numL_step h]
    have ne := TL.numL_ne (m / 10)
    have e : (TL.numL (m / 10) ++ [48 + m % 10]).headD 0 = (TL.numL (m / 10)).headD 0 := by
      cases hq : TL.numL (m / 10) with
      | nil => exact absurd hq ne
      | cons a l => rfl
    rw [e]
    by_cases h2 : 10 ≤ m / 10
    · exact ih (m / 10) (by omega) h2
    · rw [TL.numL_lt (by omega)]
      show 48 + m / 10 ≠ 48
      omega
theorem numO_num {n : Int} (h0 : 0 ≤ n) (h : n < 10000000) : numO (Str.ofString (toString n)) = some n := by
  obtain ⟨m, rfl⟩ := Int.eq_ofNat_of_zero_le h0
  have hm : m < 10 ^ 7 := Int.ofNat_lt.mp h
  have e := tl_numT m
  rw [numO_yes]
  · rw [e, TL.numL_val]
  · rw [e]
    refine ⟨List.length_pos_iff.mpr (TL.numL_ne m), TL.numL_len (by decide) hm, TL.numL_digits m, fun q => ?_⟩
    by_cases h10 : 10 ≤ m
    · exact numL_head m h10 q.1
    · rw [TL.numL_lt (by omega)] at q
      have := q.2
      simp at this
section
variable {P : Program} {w : World} {K : PySem.W.Frag} {mg : Str → Option Value} {base : Heap}
theorem ok_number_of {f : Addr} {fd : FuncData} {C_Measure C_Sides C_Parcel C_Heap C_NoNumber C_NoSize C_NoMeasure C_NoSide C_NoOrder C_NoSides : Addr}
    (F : Fd K "number_of" "number_of" s_number_of [] f fd) (T : Tx K mg) (hsys : SysOk base) :
    FnG P w K mg base (L2.CX P w) 1 f fd a_number_of (spOf K (p_number_of K)) := by
  refine VS.unbox ?_
  simp (disch := with_unfolding_all
    refine fn_val F sc_number_of (fun ds S G Y h => ?_) (fun cdv A hgd outer s H E hr px tk po ds S G Y h => ?_)
    · obtain ⟨d, rfl, _⟩ := h
      rfl
    · obtain ⟨d, rfl, h⟩ := h
      refine ⟨_, (pss_cons (ps_if (PW.pt (pw_or (pt_not (pt_val (pe_callB c_isiZ (by rfl) T.b_isinstance (by decide +kernel) (pa_cons (pv 0) (pa_cons (pe_bltn (v := .ty "str") (by rfl) T.b_str (by decide +kernel) rfl) pa_nil))))) (pw_or1 (pt_not (pt_chain op_le op_le pe_int (pe_callB c_len (by rfl) T.b_len (by decide +kernel) (pa_cons (pv 0) pa_nil)) pe_int))))) (pss_one (ps_ret pe_non))
        pss_nil)
        (pss_cons (ps_if (PW.pt (pw_or (pt_not (pt_val (pe_callB (cr_all rfl) (by rfl) T.b_all (by decide +kernel) (pa_cons (pe_lc (own := [("sign", 1)]) rfl sc_number_of.nd (pi_str (pv 0)) (blkOk_by (own := [("sign", 1)]) (N := n_number_of) (sc := defScope s_number_of) (by decide +kernel)) (fun _ _ _ _ _ => (pg_name (i := 1) sc_number_of.nd rfl (Or.inl rfl))) (fun _ _ _ _ _ => pts_nil) (fun _ _ _ _ _ => (pe_cmpR op_inStr (pv 1) (pe_gc (by rfl) T.c_FIGURES) (by rfl)))) pa_nil)))) (pw_or1 (PW.pt (pw_and (pt_cmpR op_eq (pe_ix ix_str (pv 0) pe_int (fun _ _ => rfl)) pe_str (nomark _)) (pw_and1 (pt_cmpR op_gt (pe_callB c_len (by rfl) T.b_len (by decide +kernel) (pa_cons (pv 0) pa_nil)) pe_int (nomark _)))))))) (pss_one (ps_ret pe_non))
        pss_nil)
        (pss_one (ps_ret (pe_callTy c_intStr (by rfl) T.b_int (by decide +kernel) (pa_cons (pv 0) pa_nil)))))), ?_⟩
      rcases h with ⟨z, rfl, hz, k⟩ | ⟨t, ot, kt, k⟩
      · dsimp only [cxOf, List.map]
        show VX _ _ [_, _] _ _
        have hz2 : z.length ≤ sizeLine := Nat.le_trans hz (by decide)
        have ez : z.cps.toList.length = z.length := Array.length_toList
        walk_at "go"
        refine br (fun h1 => ?_) (fun h1 => ?_)
        · walk_at "go"
          refine brN (fun h2 => ?_) (fun h2 => ?_)
          · walk_at "go"
            rw [← numD_no (s := z) fun q => h2 (by have := q.2.1; omega)]
            exact k
          · walk_at "go"
            refine ve_lcM (fun d => match d with | .str y => .bl (decide (y.cps.toList.headD 0 ∈ ("0123456789" : Str).cps.toList)) | _ => .non) (vi_str (ve_var rfl ⟨z, rfl, ?_⟩))
            refine ⟨by rw [signsD, List.length_map]; omega, fun d hd => ?_, ?_⟩
            · obtain ⟨n, hn, rfl⟩ := List.mem_map.mp hd
              walk_at "go"
              exact ⟨rfl, by walk_at "go"; exact ⟨rfl, rfl⟩⟩
            have em : List.map (fun d => match d with | D.str y => D.bl (decide (y.cps.toList.headD 0 ∈ ("0123456789" : Str).cps.toList)) | _ => .non) (signsD z) = (z.cps.toList.map fun n => decide (n ∈ ("0123456789" : Str).cps.toList)).map D.bl := by
              rw [signsD, List.map_map, List.map_map]
              rfl
            rw [em]
            walk_at "go"
            refine rc_all .v ?_
            walk_at "go"
            refine brB (fun h3 => ?_) (fun h3 => ?_)
            · walk_at "go"
              rw [← numD_no (s := z) fun q => ?_]
              · exact k
              · have : ((z.cps.toList.map fun n => decide (n ∈ ("0123456789" : Str).cps.toList)).all id) = true := by
                  rw [List.all_eq_true]
                  intro b hb
                  obtain ⟨n, hn, rfl⟩ := List.mem_map.mp hb
                  exact decide_eq_true (figs.mpr (q.2.2.1 n hn))
                rw [this] at h3
                cases h3
            have hA : NumText.AllDigits z.cps.toList := fun c hc => by
              have := List.all_eq_true.mp h3 (decide (c ∈ ("0123456789" : Str).cps.toList)) (List.mem_map.mpr ⟨c, hc, rfl⟩)
              exact figs.mp (of_decide_eq_true this)
            cases eL : z.cps.toList with
            | nil => rw [eL] at ez; simp at ez; omega
            | cons c cs =>
            walk_at "go"
            refine rv_ixS (n := c) hz2 (by rw [eL]; exact atI_nat (j := 0) rfl) ?_
            walk_at "go"
            have hfin : ∀ (cc : VS.Ctx), OkN z.cps.toList → RC cc rIntStr [.str z] S G := fun cc ok => by
              refine rc_intS (n := (NumText.digitsVal z.cps.toList : Nat)) (PySem.intText_digits hA (by rw [eL]; exact List.cons_ne_nil _ _) (by omega)) (by omega) ?_
              rw [← numD_yes ok]
              exact k
            refine br (fun h4 => ?_) (fun h4 => ?_)
            · walk_at "go"
              refine br (fun h5 => ?_) (fun h5 => ?_)
              · walk_at "go"
                rw [← numD_no (s := z) fun q => q.2.2.2 ⟨?_, by omega⟩]
                · exact k
                · rw [eL]
                  have e := congrArg (fun s : Str => s.cps.toList) h4
                  have e2 : ([c] : List Nat) = [48] := e.trans (by decide +kernel)
                  exact (List.cons.inj e2).1
              · walk_at "go"
                exact hfin _ ⟨by omega, by omega, hA, fun q => by have := q.2; omega⟩
            · walk_at "go"
              refine hfin _ ⟨by omega, by omega, hA, fun q => h4 ?_⟩
              have e := q.1
              rw [eL] at e
              change c = 48 at e
              subst e
              decide +kernel
        · walk_at "go"
          rw [← numD_no (s := z) fun q => h1 (by have := q.1; omega)]
          exact k
      · dsimp only [cxOf, List.map]
        show VX _ _ [_, _] _ _
        walk_at "go"
        refine rc_isiP ot kt ?_
        walk_at "go"
        exact k) only [↓VS.box]
end
end LW
namespace LW
open PySem L2 C8 PySem.Spec PyProof.Rows VS
/-! ### the words of a text -/
def wdO (z : Str) : Option (List Str) := if 10 ∈ z.cps.toList ∨ ("" : Str) ∈ Txt.split z " " then none else some (Txt.split z " ")
def oL : Option (List Str) → D
  | some ws => .lst (ws.map D.str)
  | none => .non
def p_words_of (K : PySem.W.Frag) : Pt := fun ds S G _ => ∃ d, ds = [d] ∧ ((∃ z, d = .str z ∧ z.length ≤ 100000 ∧ G (oL (wdO z)) S) ∨ ∃ t, OfC K S d t ∧ PySem.W.kitOne K t (.type "str") = some false ∧ G .non S)
theorem nl_ : ("\n" : Str) = ⟨#[10]⟩ := by decide +kernel
theorem wdO_join {ws : List Str} (ne : ws ≠ []) (h : ∀ y ∈ ws, y ≠ "" ∧ 32 ∉ y.cps.toList ∧ 10 ∉ y.cps.toList) : wdO (Txt.join " " ws) = some ws := by
  have e : Txt.split (Txt.join " " ws) " " = ws := TL.split_join (s := 32) (S := []) (by decide +kernel) (by decide +kernel) ne fun p hp => (h p hp).2.1
  unfold wdO
  rw [e, if_neg]
  rintro (z | z)
  · have e1 : (Txt.join " " ws).cps.toList = TL.joinL (TL.tl " ") (ws.map TL.tl) := (congrArg TL.tl (TL.join_eq " " ws)).trans (TL.tl_join " " ws)
    rw [e1] at z
    rcases joinL_mem _ _ _ z with q | ⟨p, hp, q⟩
    · exact absurd q (by decide +kernel)
    · obtain ⟨y, hy, rfl⟩ := List.mem_map.mp hp
      exact (h y hy).2.2 q
  · exact (h _ z).1 rfl
section
variable {P : Program} {w : World} {K : PySem.W.Frag} {mg : Str → Option Value} {base : Heap}
theorem ok_words_of {f : Addr} {fd : FuncData} {C_Measure C_Sides C_Parcel C_Heap C_NoNumber C_NoSize C_NoMeasure C_NoSide C_NoOrder C_NoSides : Addr}
    (F : Fd K "words_of" "words_of" s_words_of [] f fd) (T : Tx K mg) (hsys : SysOk base) :
    FnG P w K mg base (L2.CX P w) 1 f fd a_words_of (spOf K (p_words_of K)) := by
  refine VS.unbox ?_
  simp (disch := with_unfolding_all
    refine fn_val F sc_words_of (fun ds S G Y h => ?_) (fun cdv A hgd outer s H E hr px tk po ds S G Y h => ?_)
    · obtain ⟨d, rfl, _⟩ := h
      rfl
    · obtain ⟨d, rfl, h⟩ := h
      refine ⟨_, (pss_cons (ps_if (PW.pt (pw_or (pt_not (pt_val (pe_callB c_isiZ (by rfl) T.b_isinstance (by decide +kernel) (pa_cons (pv 0) (pa_cons (pe_bltn (v := .ty "str") (by rfl) T.b_str (by decide +kernel) rfl) pa_nil))))) (pw_or1 (pt_cmpR op_inStr pe_str (pv 0) (by rfl))))) (pss_one (ps_ret pe_non))
        pss_nil)
        (pss_cons (ps_set (i := 1) sc_words_of.nd rfl (Or.inl rfl) (pe_m1 PySem.F.slot_str_split PySem.F.type_str_split m_split (pv 0) pe_str))
        (pss_cons (ps_if (pt_cmpR op_in_seq pe_str (pv 1) (by rfl)) (pss_one (ps_ret pe_non))
        pss_nil)
        (pss_one (ps_ret (pv 1)))))), ?_⟩
      (try dsimp only [cxOf, List.map])
      show VX _ _ [_, _] _ _
      rcases h with ⟨z, rfl, hz, k⟩ | ⟨t, ot, kt, k⟩
      · rw [nl_]
        unfold wdO at k
        walk_at "gr"
        refine VS.br (fun h1 => ?_) (fun h1 => ?_)
        · rw [if_pos (.inl h1)] at k
          walk_at "gr"
          exact k
        walk_at "gr"
        refine rm_splitV (by decide +kernel) (by have q := szl; omega) ?_
        walk_at "gr"
        refine rv_in (.l .v) rfl (flat_strs _) ?_
        rw [if_neg (by decide), inD_strs]
        walk_at "gr"
        refine VS.br (fun h2 => ?_) (fun h2 => ?_)
        · rw [if_pos (.inr h2)] at k
          walk_at "gr"
          exact k
        · rw [if_neg (by rintro (z | z); exact h1 z; exact h2 z)] at k
          walk_at "gr"
          exact k
      · walk_at "gr"
        refine rc_isiP ot kt ?_
        walk_at "gr"
        exact k) only [↓VS.box]
end
end LW
namespace LW
open PySem L2 C8 PySem.Spec PyProof.Rows VS
/-! ### a size read -/
/-- what words come to, unit by unit; the words in pairs -/
def sumR : List (Str × Int) → List Str → Int → Option Int
  | [], ws, t => if ws = [] then some t else none
  | (z, e) :: us, a :: b :: ws, t =>
    if z = a ∨ z = b then
      match numO (if z = "rest" then b else a) with
      | none => none
      | some m => if m = 0 ∨ (if z = "rest" then a else b) ≠ z then none else sumR us ws (t + m * e)
    else sumR us (a :: b :: ws) t
  | _ :: us, ws, t => sumR us ws t
def restU : Str × Int := ("rest", 1)
def sumP (us : List (Str × Int)) (ws : List Str) : Option Int := if ws.length % 2 = 1 then none else sumR (us ++ [restU]) ws 0
def ptS (us : List (Str × Int)) (z : Str) : Option Int := if z = "none" then some 0 else (match (wdO z).bind (sumP us) with
  | some i => if 1000000 < i then none else some i
  | none => none)
def p_Ms_sum (CM : Addr) : Pt := fun ds S G _ => ∃ (nm : Str) (us : List (Str × Int)) (o : Option (List Str)), ds = [msD CM nm us, oL o] ∧ Ug us ∧ (∀ ws, o = some ws → ws.length ≤ 100001 ∧ ∀ y ∈ ws, y.length ≤ 100000) ∧ G (oI (o.bind (sumP us))) S
theorem dig_b : ∀ (n : Nat) (cs : List Nat), cs.length = n → (∀ c ∈ cs, 48 ≤ c ∧ c ≤ 57) → NumText.digitsVal cs < 10 ^ n
  | 0, cs, h, _ => by
    rw [List.length_eq_zero_iff.mp h]
    decide
  | n + 1, cs, h, hd => by
    have ne : cs ≠ [] := fun z => by rw [z] at h; cases h
    have e : cs = cs.dropLast ++ [cs.getLast ne] := (List.dropLast_concat_getLast ne).symm
    have l := hd (cs.getLast ne) (List.getLast_mem ne)
    have ih := dig_b n cs.dropLast (by rw [List.length_dropLast, h]; rfl) fun c hc => hd c ((List.dropLast_sublist cs).mem hc)
    rw [e, NumText.digitsVal_snoc, Nat.pow_succ]
    omega
theorem numO_b {z : Str} {m : Int} (h : numO z = some m) : 0 ≤ m ∧ m < 10000000 := by
  unfold numO at h
  split at h
  · rename_i ok
    cases h
    obtain ⟨a, b, c, _⟩ := okN_iff.mp ok
    have := dig_b _ z.cps.toList rfl c
    have l : 10 ^ z.cps.toList.length ≤ 10 ^ 7 := Nat.pow_le_pow_right (by decide) b
    have : NumText.digitsVal z.cps.toList < 10000000 := Nat.lt_of_lt_of_le this l
    omega
  · cases h
theorem cutP {ws : List Str} {k : Nat} (h : k + 2 ≤ ws.length) : cutD (ws.map D.str) (some (k : Int)) (some ((k : Int) + 2)) = ((ws.drop k).take 2).map D.str := by
  show ((ws.map D.str).drop (HT.sIx (ws.map D.str).length 0 (some (k : Int)))).take (HT.sIx (ws.map D.str).length (ws.map D.str).length (some ((k + 2 : Nat) : Int)) - HT.sIx (ws.map D.str).length 0 (some (k : Int))) = _
  rw [HT.sIx_nat, HT.sIx_nat, List.length_map, Nat.min_eq_left (by omega), Nat.min_eq_left (by omega), List.map_take, List.map_drop, show k + 2 - k = 2 by omega]
theorem drop_two {ws : List Str} {k : Nat} (h : k + 2 ≤ ws.length) : ∃ a b, ws[k]? = some a ∧ ws[k + 1]? = some b ∧ ws.drop k = a :: b :: ws.drop (k + 2) := by
  refine ⟨ws[k], ws[k + 1], List.getElem?_eq_getElem (by omega), List.getElem?_eq_getElem (by omega), ?_⟩
  rw [List.drop_eq_getElem_cons (by omega : k < ws.length), List.drop_eq_getElem_cons (by omega : k + 1 < ws.length)]
section
variable {P : Program} {w : World} {K : PySem.W.Frag} {mg : Str → Option Value} {base : Heap}
theorem ok_Measure_sum_of {f : Addr} {fd : FuncData} {C_Measure C_Sides C_Parcel C_Heap C_NoNumber C_NoSize C_NoMeasure C_NoSide C_NoOrder C_NoSides : Addr} {f_number_of : Addr} {g_number_of : FuncData}
    (F : Fd K "sum_of" "Measure.sum_of" s_Measure_sum_of [] f fd) (T : Tx K mg) (hsys : SysOk base)
    (c_number_of : Cf P w K mg base (L2.CX P w) 1 "number_of" s_number_of [] a_number_of (p_number_of K) f_number_of g_number_of)
    (k_Measure : Kl_Measure K mg C_Measure) :
    FnG P w K mg base (L2.CX P w) 2 f fd a_Measure_sum_of (spOf K (p_Ms_sum C_Measure)) := by
  refine VS.unbox ?_
  simp (disch := with_unfolding_all
    have kc_Measure := k_Measure.ins.cl
    have ka_Measure_called := k_Measure.a_called
    have ka_Measure_parts := k_Measure.a_parts
    refine fn_val F sc_Measure_sum_of (fun ds S G Y h => ?_) (fun cdv A hgd outer s H E hr px tk po ds S G Y h => ?_)
    · obtain ⟨nm, us, o, rfl, _⟩ := h
      rfl
    · obtain ⟨nm, us, o, rfl, g, hb, q⟩ := h
      refine ⟨_, (pss_cons (ps_if (PW.pt (pw_or (pt_cmpR op_isNo (pv 1) pe_non (nomark _)) (pw_or1 (pt_cmpR op_eq (pe_op op_mod (pe_callB c_len (by rfl) T.b_len (by decide +kernel) (pa_cons (pv 1) pa_nil)) pe_int) pe_int (nomark _))))) (pss_one (ps_ret pe_non))
        pss_nil)
        (pss_cons (ps_set (i := 2) sc_Measure_sum_of.nd rfl (Or.inl rfl) pe_int)
        (pss_cons (ps_set (i := 3) sc_Measure_sum_of.nd rfl (Or.inl rfl) pe_int)
        (pss_cons (ps_for po rfl (pi_list (pe_op op_cat (pe_fld (pv 0) rfl) (pe_lst (pa_cons (pe_tup (pa_cons pe_str (pa_cons pe_int pa_nil))) pa_nil)))) (pg_tup (n := 2) rfl (pgs_cons (pg_name (i := 4) sc_Measure_sum_of.nd rfl (Or.inl rfl)) (pgs_cons (pg_name (i := 5) sc_Measure_sum_of.nd rfl (Or.inl rfl)) pgs_nil)))
        (pss_one (ps_if (PW.pt (pw_and (pt_cmpR op_lt (pv 3) (pe_callB c_len (by rfl) T.b_len (by decide +kernel) (pa_cons (pv 1) pa_nil)) (nomark _)) (pw_and1 (pt_cmpR op_in_seq (pv 4) (pe_slice sl_list (pv 1) (po_some (pv 3)) (po_some (pe_op op_add (pv 3) pe_int))) (by rfl))))) (pss_cons (ps_set (i := 6) sc_Measure_sum_of.nd rfl (Or.inl rfl) (pe_cG c_number_of.fn hgd (hr.mono (by decide)) (by rfl) c_number_of.mg c_number_of.kp c_number_of.b .nil VS.pass0 (pa_cons (pe_ix ix_list (pv 1) (pe_op op_add (pv 3) (pe_callTy c_int1 (by rfl) T.b_int (by decide +kernel) (pa_cons (pe_cmpR op_eq (pv 4) pe_str (nomark _)) pa_nil))) (fun _ _ => rfl)) pa_nil)))
        (pss_cons (ps_if (PW.pt (pw_or (pt_cmpR op_isNo (pv 6) pe_non (nomark _)) (pw_or (pt_cmpR op_eq (pv 6) pe_int (nomark _)) (pw_or1 (pt_cmpR op_ne (pe_ix ix_list (pv 1) (pe_op op_add (pv 3) (pe_callTy c_int1 (by rfl) T.b_int (by decide +kernel) (pa_cons (pe_cmpR op_ne (pv 4) pe_str (nomark _)) pa_nil))) (fun _ _ => rfl)) (pv 4) (nomark _)))))) (pss_one (ps_ret pe_non))
        pss_nil)
        (pss_cons (ps_aug (i := 2) sc_Measure_sum_of.nd rfl (.inl rfl) (pe_op op_mulW (pv 6) (pv 5)) ip_add)
        (pss_one (ps_aug (i := 3) sc_Measure_sum_of.nd rfl (.inl rfl) pe_int ip_add)))))
        pss_nil)))
        (pss_one (ps_ret (pe_ifExp (pt_cmpR op_eq (pv 3) (pe_callB c_len (by rfl) T.b_len (by decide +kernel) (pa_cons (pv 1) pa_nil)) (nomark _)) (pv 2) pe_non))))))), ?_⟩
      (try dsimp only [cxOf, List.map])
      show VX _ _ [_, _, _, _, _, _, _] _ _
      cases o with
      | none =>
        walk_at "gr"
        exact q
      | some ws =>
      obtain ⟨hl, hy⟩ := hb ws rfl
      have q : G (oI (sumP us ws)) S := q
      clear hb
      have sz := szl
      have gl := g.l
      show VX _ _ [some (msD C_Measure nm us), some (.lst (ws.map D.str)), _, _, _, _, _] _ _
      walk_at "gr"
      have ev : ((ws.map D.str).length : Int) % 2 = if ws.length % 2 = 1 then 1 else 0 := by
        rw [List.length_map]
        split <;> omega
      refine VS.br (fun h1 => ?_) (fun h1 => ?_)
      · have e1 : ws.length % 2 = 1 := by rw [List.length_map] at h1; omega
        unfold sumP at q
        rw [if_pos e1] at q
        walk_at "gr"
        exact q
      have e1 : ¬ ws.length % 2 = 1 := fun z => h1 (by rw [List.length_map]; omega)
      clear h1 ev
      walk_at "gr"
      refine vx_for (vi_list ?_)
      walk_at "gr"
      refine ve_lst ?_
      walk_at "gr"
      refine rv_cat .v .v (by rw [List.length_map]; show us.length + 1 ≤ sizeLine; omega) ?_
      have em : us.map uD ++ [.tup [.str "rest", .int 1]] = (us ++ [restU]).map uD := by rw [List.map_append]; rfl
      rw [em]
      have ep : sumP us ws = sumR (us ++ [restU]) ws 0 := if_neg e1
      have gv : ∀ u ∈ us ++ [restU], 1 ≤ u.2 ∧ u.2 ≤ 100000 := fun u hu => by
        rcases List.mem_append.mp hu with hu | hu
        · exact (g.u u hu).p
        · rw [List.mem_singleton.mp hu]; decide
      have lv : (us ++ [restU]).length ≤ 6 := by rw [List.length_append]; show us.length + 1 ≤ 6; omega
      clear em
      generalize us ++ [restU] = vs at ep gv lv ⊢
      walk_at "gr"
      refine ⟨_, .v, fun i ρ2 S2 => S2 = S ∧ ∃ (t : Int) (k : Nat) (x4 x5 x6 : Option D), ρ2 = [some (msD C_Measure nm us), some (.lst (ws.map D.str)), some (.int t), some (.int k), x4, x5, x6] ∧ k ≤ ws.length ∧ k % 2 = 0 ∧ sumR (vs.drop i) (ws.drop k) t = sumP us ws ∧ 0 ≤ t ∧ t ≤ (i : Nat) * 1000000000000, ⟨rfl, 0, 0, _, _, _, rfl, Nat.zero_le _, rfl, ep.symm, Int.le_refl _, by omega⟩, ?_, ?_⟩
      · rintro i d ρ2 S2 hd ⟨rfl, t, k, x4, x5, x6, rfl, hk, he, hs, t0, t1⟩
        rw [List.getElem?_map] at hd
        obtain ⟨u, hu, rfl⟩ := Option.map_eq_some_iff.mp hd
        have hi : i < vs.length := (List.getElem?_eq_some_iff.mp hu).1
        have gu := gv u (List.mem_of_getElem? hu)
        have dr : vs.drop i = u :: vs.drop (i + 1) := by
          rw [List.drop_eq_getElem_cons hi]
          rw [List.getElem?_eq_getElem hi] at hu
          rw [Option.some.inj hu]
        obtain ⟨z, e⟩ := u
        dsimp only at gu
        rw [dr] at hs
        rw [show uD (z, e) = .tup [.str z, .int e] from rfl]
        clear dr hu hd ep
        walk_at "gr"
        have lw : (ws.map D.str).length = ws.length := List.length_map ..
        rw [lw]
        refine VS.br (fun h2 => ?_) (fun h2 => ?_)
        · have k2 : k + 2 ≤ ws.length := by omega
          obtain ⟨a, b, ea, eb, ed⟩ := drop_two k2
          rw [ed] at hs
          have la := hy a (List.mem_of_getElem? ea)
          have lb := hy b (List.mem_of_getElem? eb)
          have hs : (if z = a ∨ z = b then (match numO (if z = "rest" then b else a) with
            | none => none
            | some m => if m = 0 ∨ (if z = "rest" then a else b) ≠ z then none else sumR (vs.drop (i + 1)) (ws.drop (k + 2)) (t + m * e)) else sumR (vs.drop (i + 1)) (a :: b :: ws.drop (k + 2)) t) = sumP us ws := hs
          walk_at "gr"
          refine rs_list .v ?_
          rw [cutP k2, ed]
          walk_at "gr"
          refine rv_in (.l .v) rfl (flat_strs _) ?_
          rw [if_neg (by decide), inD_strs, show decide (z ∈ List.take 2 (a :: b :: ws.drop (k + 2))) = decide (z = a ∨ z = b) by simp]
          walk_at "gr"
          refine VS.br (fun h3 => ?_) (fun h3 => ?_)
          · rw [if_pos h3] at hs
            have ix1 : atI (ws.map D.str) ((k : Int) + if decide (z = "rest") = true then 1 else 0) = some (.str (if z = "rest" then b else a)) := by
              by_cases hr : z = "rest"
              · rw [decide_eq_true hr, if_pos rfl, if_pos hr]
                exact atI_nat (j := k + 1) (by rw [List.getElem?_map, eb]; rfl)
              · rw [decide_eq_false hr, if_neg (by decide), if_neg hr, Int.add_zero]
                exact atI_nat (by rw [List.getElem?_map, ea]; rfl)
            have ix2 : atI (ws.map D.str) ((k : Int) + if (!decide (z = "rest")) = true then 1 else 0) = some (.str (if z = "rest" then a else b)) := by
              by_cases hr : z = "rest"
              · rw [decide_eq_true hr, if_neg (by decide), if_pos hr, Int.add_zero]
                exact atI_nat (by rw [List.getElem?_map, ea]; rfl)
              · rw [decide_eq_false hr, if_neg hr]
                show atI (ws.map D.str) ((k : Int) + 1) = some (.str b)
                exact atI_nat (j := k + 1) (by rw [List.getElem?_map, eb]; rfl)
            have lx : (if z = "rest" then b else a).length ≤ 100000 := by split <;> assumption
            generalize (if z = "rest" then b else a) = x at hs ix1 lx
            generalize (if z = "rest" then a else b) = y at hs ix2
            walk_at "gr"
            refine rv_ixL .v ix1 ?_
            walk_at "gr"
            refine ⟨_, rfl, .inl ⟨x, rfl, lx, ?_⟩⟩
            unfold numD
            cases hn : numO x with
            | none =>
              rw [hn] at hs
              have hs : none = sumP us ws := hs
              rw [← hs] at q
              walk_at "gr"
              exact q
            | some m =>
              rw [hn] at hs
              have hs : (if m = 0 ∨ y ≠ z then none else sumR (vs.drop (i + 1)) (ws.drop (k + 2)) (t + m * e)) = sumP us ws := hs
              obtain ⟨m0, m1⟩ := numO_b hn
              show VG _ _ (.int m) _ _ _
              walk_at "gr"
              refine VS.br (fun h4 => ?_) (fun h4 => ?_)
              · rw [if_pos (.inl h4)] at hs
                rw [← hs] at q
                walk_at "gr"
                exact q
              walk_at "gr"
              refine rv_ixL .v ix2 ?_
              walk_at "gr"
              refine brN (fun h5 => ?_) (fun h5 => ?_)
              · rw [if_pos (.inr h5)] at hs
                rw [← hs] at q
                walk_at "gr"
                exact q
              · rw [if_neg (fun z => z.elim h4 fun z => z h5)] at hs
                have me0 : 0 ≤ m * e := Int.mul_nonneg m0 (by omega)
                have me1 : m * e ≤ 10000000 * 100000 := Int.mul_le_mul (by omega) gu.2 (by omega) (by decide)
                walk_at "gr"
                refine vx_augI rfl ?_
                walk_at "gr"
                refine vx_augI rfl ?_
                walk_at "gr"
                exact ⟨rfl, t + m * e, k + 2, _, _, _, rfl, k2, by omega, hs, by omega, by omega⟩
          · rw [if_neg h3, ← ed] at hs
            walk_at "gr"
            exact ⟨rfl, t, k, _, _, _, rfl, hk, he, hs, t0, by omega⟩
        · have k2 : k = ws.length := by omega
          have ed : ws.drop k = [] := by rw [k2]; exact List.drop_length ..
          rw [ed] at hs
          have hs : sumR (vs.drop (i + 1)) [] t = sumP us ws := hs
          walk_at "gr"
          exact ⟨rfl, t, k, _, _, _, rfl, hk, he, by rw [ed]; exact hs, t0, by omega⟩
      · rintro ρ2 S2 ⟨rfl, t, k, x4, x5, x6, rfl, hk, he, hs, t0, t1⟩
        rw [List.length_map, List.drop_length] at hs
        have hs : (if ws.drop k = [] then some t else none) = sumP us ws := hs
        walk_at "gr"
        rw [List.length_map]
        refine VS.br (fun h2 => ?_) (fun h2 => ?_)
        · rw [if_pos (List.drop_eq_nil_of_le (by omega))] at hs
          rw [← hs] at q
          walk_at "gr"
          exact q
        · rw [if_neg (fun z => h2 (by have := List.drop_eq_nil_iff.mp z; omega))] at hs
          rw [← hs] at q
          walk_at "gr"
          exact q) only [↓VS.box]
end
end LW
namespace LW
open PySem L2 C8 PySem.Spec PyProof.Rows VS
/-! ### what is written is read -/
abbrev UT := List ((Str × Int) × Int)
def wrW : UT → Int → List Str
  | [], r => if 0 < r then [("rest" : Str), nS r] else []
  | (u, t) :: us, r => (if 0 < t then [nS t, u.1] else []) ++ wrW us r
def tot : UT → Int → Int
  | [], r => r
  | (u, t) :: us, r => t * u.2 + tot us r
def wrS (us : UT) (r : Int) : Str := if wrW us r = [] then "none" else Txt.join " " (wrW us r)
/-- how often each unit is told, and the rest -/
structure UtOk (us : UT) (r : Int) : Prop where
  u : ∀ p ∈ us, U1 p.1
  d : (us.map (·.1.1)).Nodup
  t : ∀ p ∈ us, 0 ≤ p.2 ∧ p.2 < 10000000
  r : 0 ≤ r ∧ r < 10000000
theorem UtOk.tail {p : (Str × Int) × Int} {us : UT} {r : Int} (h : UtOk (p :: us) r) : UtOk us r :=
  ⟨fun q hq => h.u q (List.mem_cons_of_mem _ hq), (List.nodup_cons.mp h.d).2, fun q hq => h.t q (List.mem_cons_of_mem _ hq), h.r⟩
theorem nS_num {i : Int} (h : 0 ≤ i ∧ i < 10000000) : numO (nS i) = some i := numO_num h.1 h.2
theorem nS_digits {i : Int} (h : 0 ≤ i) : (nS i).cps.toList ≠ [] ∧ ∀ c ∈ (nS i).cps.toList, 48 ≤ c ∧ c ≤ 57 := by
  obtain ⟨m, rfl⟩ := Int.eq_ofNat_of_zero_le h
  have e := tl_numT m
  unfold nS
  rw [e]
  exact ⟨TL.numL_ne m, fun c hc => TL.numL_digits m c hc⟩
theorem U1.lets {u : Str × Int} (g : U1 u) : u.1.cps.toList ≠ [] ∧ ∀ c ∈ u.1.cps.toList, 97 ≤ c ∧ c ≤ 122 := by
  have h := g.n
  unfold nmB lcs at h
  rw [Bool.and_eq_true, Bool.and_eq_true, List.all_eq_true] at h
  refine ⟨fun z => ?_, fun c hc => lcN_iff.mp (h.2 c hc)⟩
  have h1 := of_decide_eq_true h.1.1
  have := str_len u.1
  rw [z] at this
  simp at this
  omega
theorem U1.ne_nS {u : Str × Int} (g : U1 u) {i : Int} (h : 0 ≤ i) : u.1 ≠ nS i := fun e => by
  obtain ⟨a, b⟩ := g.lets
  obtain ⟨_, d⟩ := nS_digits h
  rw [e] at a b
  cases hc : (nS i).cps.toList with
  | nil => exact a hc
  | cons c cs =>
    have x := b c (by rw [hc]; exact List.mem_cons_self)
    have y := d c (by rw [hc]; exact List.mem_cons_self)
    omega
theorem U1.ne_rest {u : Str × Int} (g : U1 u) : u.1 ≠ "rest" := fun e => g.k (by rw [e]; decide)
/-- how it begins -/
theorem wr_hd : ∀ {us : UT} {r : Int}, UtOk us r → wrW us r = [] ∨ ∃ a b L, wrW us r = a :: b :: L ∧ (((∃ t, 0 ≤ t ∧ a = nS t) ∧ ∃ p ∈ us, b = p.1.1) ∨ (a = "rest" ∧ ∃ t, 0 ≤ t ∧ b = nS t))
  | [], r, h => by
    unfold wrW
    split
    · exact .inr ⟨_, _, _, rfl, .inr ⟨rfl, r, h.r.1, rfl⟩⟩
    · exact .inl rfl
  | (u, t) :: us, r, h => by
    show (if 0 < t then [nS t, u.1] else []) ++ wrW us r = [] ∨ ∃ a b L, (if 0 < t then [nS t, u.1] else []) ++ wrW us r = a :: b :: L ∧ _
    split
    · exact .inr ⟨_, _, _, rfl, .inl ⟨⟨t, (h.t _ List.mem_cons_self).1, rfl⟩, _, List.mem_cons_self, rfl⟩⟩
    · rcases wr_hd h.tail with e | ⟨a, b, L, e, f⟩
      · exact .inl e
      · refine .inr ⟨a, b, L, e, ?_⟩
        rcases f with ⟨f, p, hp, e2⟩ | f
        · exact .inl ⟨f, p, List.mem_cons_of_mem _ hp, e2⟩
        · exact .inr f
theorem sumR_skip {z : Str} {e : Int} {us : List (Str × Int)} {a b : Str} {L : List Str} {t : Int} (h1 : z ≠ a) (h2 : z ≠ b) : sumR ((z, e) :: us) (a :: b :: L) t = sumR us (a :: b :: L) t := by
  show (if z = a ∨ z = b then _ else _) = _
  rw [if_neg (fun q => q.elim h1 h2)]
theorem sumR_hit {z : Str} {e : Int} {us : List (Str × Int)} {L : List Str} {t m : Int} (hz : z ≠ "rest") (hm : 0 < m ∧ m < 10000000) : sumR ((z, e) :: us) (nS m :: z :: L) t = sumR us L (t + m * e) := by
  show (if z = nS m ∨ z = z then (match numO (if z = "rest" then z else nS m) with
      | none => none
      | some k => if k = 0 ∨ (if z = "rest" then nS m else z) ≠ z then none else sumR us L (t + k * e)) else _) = _
  rw [if_pos (.inr rfl), if_neg hz, nS_num ⟨by omega, hm.2⟩]
  show (if m = 0 ∨ (if z = "rest" then nS m else z) ≠ z then none else sumR us L (t + m * e)) = _
  rw [if_neg hz, if_neg]
  rintro (q | q)
  · omega
  · exact q rfl
theorem sumR_rest {r t : Int} (h : 0 < r ∧ r < 10000000) : sumR [restU] [("rest" : Str), nS r] t = some (t + r) := by
  show (if ("rest" : Str) = "rest" ∨ ("rest" : Str) = nS r then (match numO (if ("rest" : Str) = "rest" then nS r else "rest") with
      | none => none
      | some k => if k = 0 ∨ (if ("rest" : Str) = "rest" then ("rest" : Str) else nS r) ≠ "rest" then none else sumR [] [] (t + k * 1)) else _) = _
  rw [if_pos (.inl rfl), if_pos rfl, nS_num ⟨by omega, h.2⟩]
  show (if r = 0 ∨ (if ("rest" : Str) = "rest" then ("rest" : Str) else nS r) ≠ "rest" then none else sumR [] [] (t + r * 1)) = _
  rw [if_pos rfl, if_neg]
  · show (if ([] : List Str) = [] then some (t + r * 1) else none) = _
    rw [if_pos rfl, Int.mul_one]
  · rintro (q | q)
    · omega
    · exact q rfl
theorem sum_wr : ∀ {us : UT} {r : Int}, UtOk us r → ∀ t : Int, sumR (us.map (·.1) ++ [restU]) (wrW us r) t = some (t + tot us r)
  | [], r, h, t => by
    show sumR [restU] (if 0 < r then [("rest" : Str), nS r] else []) t = some (t + r)
    by_cases h0 : 0 < r
    · rw [if_pos h0]
      exact sumR_rest ⟨h0, h.r.2⟩
    · rw [if_neg h0]
      have := h.r.1
      show (if ([] : List Str) = [] then some t else none) = _
      rw [if_pos rfl, show r = 0 by omega, Int.add_zero]
  | ((z, e), m) :: us, r, h, t => by
    have g := h.u _ List.mem_cons_self
    have hm := h.t _ List.mem_cons_self
    dsimp only at hm
    have ih := sum_wr h.tail
    show sumR ((z, e) :: (us.map (·.1) ++ [restU])) ((if 0 < m then [nS m, z] else []) ++ wrW us r) t = some (t + (m * e + tot us r))
    by_cases h0 : 0 < m
    · rw [if_pos h0]
      show sumR ((z, e) :: (us.map (·.1) ++ [restU])) (nS m :: z :: wrW us r) t = _
      rw [sumR_hit g.ne_rest ⟨h0, hm.2⟩, ih, Int.add_assoc]
    · rw [if_neg h0, List.nil_append]
      have e0 : m = 0 := by omega
      subst e0
      rw [Int.zero_mul, Int.zero_add, ← ih t]
      rcases wr_hd h.tail with q | ⟨a, b, L, q, f⟩
      · rw [q]
        rfl
      · rw [q]
        have hz : z ∉ us.map (·.1.1) := (List.nodup_cons.mp h.d).1
        refine sumR_skip ?_ ?_
        · rcases f with ⟨⟨i, i0, rfl⟩, _⟩ | ⟨rfl, _⟩
          · exact g.ne_nS i0
          · exact g.ne_rest
        · rcases f with ⟨_, p, hp, rfl⟩ | ⟨_, i, i0, rfl⟩
          · exact fun z' => hz (List.mem_map.mpr ⟨p, hp, z'.symm⟩)
          · exact g.ne_nS i0
theorem wr_even : ∀ (us : UT) (r : Int), (wrW us r).length % 2 = 0
  | [], r => by unfold wrW; split <;> simp
  | (u, t) :: us, r => by
    have ih := wr_even us r
    show ((if 0 < t then [nS t, u.1] else []) ++ wrW us r).length % 2 = 0
    rw [List.length_append]
    split <;> simp <;> omega
theorem wr_len : ∀ (us : UT) (r : Int), (wrW us r).length ≤ 2 * us.length + 2
  | [], r => by unfold wrW; split <;> simp
  | (u, t) :: us, r => by
    have ih := wr_len us r
    show ((if 0 < t then [nS t, u.1] else []) ++ wrW us r).length ≤ 2 * ((u, t) :: us).length + 2
    rw [List.length_append, List.length_cons]
    split <;> simp <;> omega
theorem wr_words : ∀ {us : UT} {r : Int}, UtOk us r → ∀ y ∈ wrW us r, y.cps.toList ≠ [] ∧ ∀ c ∈ y.cps.toList, 48 ≤ c ∧ c ≤ 122
  | [], r, h, y, hy => by
    unfold wrW at hy
    split at hy
    · simp only [List.mem_cons, List.not_mem_nil, or_false] at hy
      rcases hy with rfl | rfl
      · exact ⟨by decide +kernel, by decide +kernel⟩
      · obtain ⟨a, b⟩ := nS_digits h.r.1
        exact ⟨a, fun c hc => by have := b c hc; omega⟩
    · cases hy
  | (u, t) :: us, r, h, y, hy => by
    have hy : y ∈ (if 0 < t then [nS t, u.1] else []) ++ wrW us r := hy
    rcases List.mem_append.mp hy with hy | hy
    · split at hy
      · simp only [List.mem_cons, List.not_mem_nil, or_false] at hy
        rcases hy with rfl | rfl
        · obtain ⟨a, b⟩ := nS_digits (h.t _ List.mem_cons_self).1
          exact ⟨a, fun c hc => by have := b c hc; omega⟩
        · obtain ⟨a, b⟩ := (h.u _ List.mem_cons_self).lets
          exact ⟨a, fun c hc => by have := b c hc; omega⟩
      · cases hy
    · exact wr_words h.tail y hy
theorem wr_tot0 : ∀ {us : UT} {r : Int}, UtOk us r → wrW us r = [] → tot us r = 0
  | [], r, h, e => by
    have := h.r.1
    unfold wrW at e
    split at e
    · cases e
    · show r = 0; omega
  | (u, t) :: us, r, h, e => by
    have e : (if 0 < t then [nS t, u.1] else []) ++ wrW us r = [] := e
    obtain ⟨e1, e2⟩ := List.append_eq_nil_iff.mp e
    have := (h.t _ List.mem_cons_self).1
    have t0 : t = 0 := by
      split at e1
      · cases e1
      · dsimp only at this; omega
    show t * u.2 + tot us r = 0
    rw [wr_tot0 h.tail e2, t0, Int.zero_mul, Int.add_zero]
/-- a size, so written, is read -/
theorem pt_wr {us : UT} {r : Int} (h : UtOk us r) (hn : tot us r ≤ 1000000) : ptS (us.map (·.1)) (wrS us r) = some (tot us r) := by
  unfold ptS wrS
  by_cases e : wrW us r = []
  · rw [if_pos e, if_pos rfl, wr_tot0 h e]
  · rw [if_neg e]
    have ww := wr_words h
    have hj : wdO (Txt.join " " (wrW us r)) = some (wrW us r) := wdO_join e fun y hy => by
      obtain ⟨a, b⟩ := ww y hy
      refine ⟨fun z => a (by rw [z]; decide +kernel), fun z => ?_, fun z => ?_⟩
      · have := b 32 z; omega
      · have := b 10 z; omega
    have hne : Txt.join " " (wrW us r) ≠ "none" := fun z => by
      have e2 := hj
      rw [z] at e2
      have e3 : wdO "none" = some [("none" : Str)] := by decide +kernel
      rw [e3] at e2
      have e4 := congrArg List.length (Option.some.inj e2)
      have := wr_even us r
      rw [← e4] at this
      cases this
    rw [if_neg hne, hj]
    show (match sumP (us.map (·.1)) (wrW us r) with
      | some i => if 1000000 < i then none else some i
      | none => none) = _
    have es : sumP (us.map (·.1)) (wrW us r) = some (tot us r) := by
      unfold sumP
      rw [if_neg (by rw [wr_even]; decide), sum_wr h, Int.zero_add]
    rw [es]
    show (if 1000000 < tot us r then none else some (tot us r)) = _
    rw [if_neg (by omega)]
/-! the text of a size, by its digits -/
def dgU : List (Str × Int) → Int → UT
  | [], _ => []
  | u :: us, n => (u, n / u.2) :: dgU us (n % u.2)
def dgR : List (Str × Int) → Int → Int
  | [], n => n
  | u :: us, n => dgR us (n % u.2)
theorem dg_map : ∀ (us : List (Str × Int)) (n : Int), (dgU us n).map (·.1) = us
  | [], _ => rfl
  | u :: us, n => by
    show u :: (dgU us (n % u.2)).map (·.1) = u :: us
    rw [dg_map us]
theorem dg_tot : ∀ (us : List (Str × Int)) (n : Int), tot (dgU us n) (dgR us n) = n
  | [], _ => rfl
  | u :: us, n => by
    show n / u.2 * u.2 + tot (dgU us (n % u.2)) (dgR us (n % u.2)) = n
    rw [dg_tot us]
    have := Int.mul_ediv_add_emod n u.2
    rw [Int.mul_comm u.2] at this
    exact this
theorem dg_words : ∀ (us : List (Str × Int)) (n : Int) (acc : List Str), (us.foldl txStep (acc, n)).1 ++ (if 0 < (us.foldl txStep (acc, n)).2 then [("rest" : Str), nS (us.foldl txStep (acc, n)).2] else []) = acc ++ wrW (dgU us n) (dgR us n)
  | [], _, _ => rfl
  | u :: us, n, acc => by
    have ih := dg_words us (n % u.2) (acc ++ (if 0 < n / u.2 then [nS (n / u.2), u.1] else []))
    rw [List.append_assoc] at ih
    exact ih
theorem txW_wr (us : List (Str × Int)) (n : Int) : txW us n = wrW (dgU us n) (dgR us n) := dg_words us n []
theorem txS_wr (us : List (Str × Int)) (n : Int) : txS us n = wrS (dgU us n) (dgR us n) := by
  unfold txS wrS
  rw [txW_wr]
theorem dg_ok : ∀ {us : List (Str × Int)} {n : Int}, (∀ u ∈ us, U1 u) → (us.map (·.1)).Nodup → 0 ≤ n → n ≤ 1000000 → UtOk (dgU us n) (dgR us n)
  | [], n, _, _, h0, h1 => ⟨nofun, .nil, nofun, h0, by show n < 10000000; omega⟩
  | u :: us, n, g, nd, h0, h1 => by
    have gu := (g u List.mem_cons_self).p
    obtain ⟨a, b, c, d, _⟩ := div_b h0 gu.1
    have ih := dg_ok (us := us) (n := n % u.2) (fun v hv => g v (List.mem_cons_of_mem _ hv)) (List.nodup_cons.mp nd).2 c (by omega)
    refine ⟨fun p hp => ?_, ?_, fun p hp => ?_, ih.r⟩
    · rcases List.mem_cons.mp hp with rfl | hp
      · exact g u List.mem_cons_self
      · exact ih.u p hp
    · show (u.1 :: (dgU us (n % u.2)).map (·.1.1)).Nodup
      rw [show (dgU us (n % u.2)).map (·.1.1) = us.map (·.1) by
        conv => rhs; rw [← dg_map us (n % u.2)]
        rw [List.map_map]
        rfl]
      exact nd
    · rcases List.mem_cons.mp hp with rfl | hp
      · exact ⟨a, by show n / u.2 < 10000000; omega⟩
      · exact ih.t p hp
end LW
namespace LW
open PySem L2 C8 PySem.Spec PyProof.Rows VS
/-! ### points of a text; told again -/
/-- what a thing is, as far as texts of sizes go: a text, or other data -/
inductive TxW (S : Sto) : D → Option Str → Prop
  | s {z : Str} (h : Asc 100000 z) : TxW S (.str z) (some z)
  | o {d d' : D} (h : Da S d d') (s : ∀ z, d' ≠ .str z) (sh : SeqAt.shaped (pd d') = true) : TxW S d none
def ptO (us : List (Str × Int)) (o : Option Str) : Option Int := o.bind (ptS us)
def p_Ms_points (K : PySem.W.Frag) (CM CS : Addr) : Pt := fun ds S G Y => ∃ nm us d o, ds = [msD CM nm us, d] ∧ Ug us ∧ TxW S d o ∧ (ptO us o = none → Y CS [("found", d)] S) ∧ (∀ i, ptO us o = some i → G (.int i) S)
theorem mem_sum {p : List Nat} : ∀ {ps : List (List Nat)}, p ∈ ps → p.length + 1 ≤ (ps.map fun p => p.length + 1).sum
  | q :: ps, h => by
    rw [List.map_cons, List.sum_cons]
    rcases List.mem_cons.mp h with rfl | h
    · omega
    · have := mem_sum h
      omega
theorem wdO_b {z : Str} {ws : List Str} (h : wdO z = some ws) (hl : z.length ≤ 100000) : ws.length ≤ 100001 ∧ ∀ y ∈ ws, y.length ≤ 100000 := by
  unfold wdO at h
  split at h
  · cases h
  have e : W z = ws := Option.some.inj h
  subst e
  have := W_len z
  refine ⟨by omega, fun y hy => ?_⟩
  have hs := sp_sum z.cps.toList []
  have hy2 : y.cps.toList ∈ sp [] z.cps.toList := by rw [← W_tl]; exact List.mem_map.mpr ⟨y, hy, rfl⟩
  have := mem_sum hy2
  have a := str_len y
  have b := str_len z
  rw [List.length_nil] at hs
  omega
theorem Asc.shaped {n : Nat} {z : Str} (h : Asc n z) : SeqAt.shaped (pd (.str z)) = true := by
  show ((pd (.str z)).canLay0 && decide ((pd (.str z)).depth ≤ 64)) = true
  rw [asc_ok h.2]
  rfl
section
variable {P : Program} {w : World} {K : PySem.W.Frag} {mg : Str → Option Value} {base : Heap}
theorem ok_Measure_points {f : Addr} {fd : FuncData} {C_Measure C_Sides C_Parcel C_Heap C_NoNumber C_NoSize C_NoMeasure C_NoSide C_NoOrder C_NoSides : Addr} {f_words_of f_Measure_sum_of : Addr} {g_words_of g_Measure_sum_of : FuncData}
    (F : Fd K "points" "Measure.points" s_Measure_points [] f fd) (T : Tx K mg) (hsys : SysOk base)
    (c_words_of : Cf P w K mg base (L2.CX P w) 1 "words_of" s_words_of [] a_words_of (p_words_of K) f_words_of g_words_of)
    (c_Measure_sum_of : Mf P w K mg base 2 C_Measure "sum_of" "Measure.sum_of" s_Measure_sum_of [] a_Measure_sum_of (p_Ms_sum C_Measure) f_Measure_sum_of g_Measure_sum_of)
    (x_NoSize : Xc P w K mg base "NoSize" C_NoSize "found")
    (k_Measure : Kl_Measure K mg C_Measure) :
    FnG P w K mg base (L2.CX P w) 4 f fd a_Measure_points (spOf K (p_Ms_points K C_Measure C_NoSize)) := by
  refine VS.unbox ?_
  simp (disch := with_unfolding_all
    have kc_Measure := k_Measure.ins.cl
    have ka_Measure_called := k_Measure.a_called
    have ka_Measure_parts := k_Measure.a_parts
    refine fn_val F sc_Measure_points (fun ds S G Y h => ?_) (fun cdv A hgd outer s H E hr px tk po ds S G Y h => ?_)
    · obtain ⟨nm, us, d, o, rfl, _⟩ := h
      rfl
    · obtain ⟨nm, us, d, o, rfl, g, hd, qy, q⟩ := h
      refine ⟨_, (pss_cons (ps_set (i := 2) sc_Measure_points.nd rfl (Or.inl rfl) pe_int)
        (pss_cons (ps_if (pt_cmpR (op_neP hr hsys) (pv 1) pe_str (nomark _)) (pss_one (ps_set (i := 2) sc_Measure_points.nd rfl (Or.inl rfl) (pe_mG (pv 0) c_Measure_sum_of.cl c_Measure_sum_of.me c_Measure_sum_of.fn hgd (hr.mono (by decide)) c_Measure_sum_of.b .nil VS.pass0 (pa_cons (pe_cG c_words_of.fn hgd (hr.mono (by decide)) (by rfl) c_words_of.mg c_words_of.kp c_words_of.b .nil VS.pass0 (pa_cons (pv 1) pa_nil)) pa_nil))))
        pss_nil)
        (pss_cons (ps_if (PW.pt (pw_or (pt_cmpR op_isNo (pv 2) pe_non (nomark _)) (pw_or1 (pt_cmpR op_gt (pv 2) (pe_gc (by rfl) T.c_MOST_SIZE) (nomark _))))) (pss_one (ps_rz tk x_NoSize (hr.mono (by decide)) (by rfl) (pv 1)))
        pss_nil)
        (pss_one (ps_ret (pv 2)))))), ?_⟩
      (try dsimp only [cxOf, List.map])
      show VX _ _ [_, _, _] _ _
      walk_at "gr"
      cases hd with
      | @s z ha =>
        refine rv_neP .v .v rfl rfl (Asc.shaped ha) (by decide +kernel) ?_
        rw [show PyData.eqv (pd (.str z)) (pd (.str "none")) = decide (z = "none") from stB_eqv (d := .str z) rfl]
        walk_at "gr"
        have qy : ptS us z = none → Y C_NoSize [("found", .str z)] S := qy
        have q : ∀ i, ptS us z = some i → G (.int i) S := q
        refine brN (fun h1 => ?_) (fun h1 => ?_)
        · unfold ptS at qy q
          rw [if_neg h1] at qy q
          walk_at "gr"
          refine ⟨_, rfl, .inl ⟨z, rfl, ha.1, ?_⟩⟩
          walk_at "gr"
          refine ⟨nm, us, wdO z, rfl, g, fun ws e => wdO_b e ha.1, ?_⟩
          cases hs : (wdO z).bind (sumP us) with
          | none =>
            rw [hs] at qy
            walk_at "gr"
            exact qy rfl
          | some i =>
            rw [hs] at qy q
            have qy : (if 1000000 < i then none else some i) = none → Y C_NoSize [("found", .str z)] S := qy
            have q : ∀ j, (if 1000000 < i then none else some i) = some j → G (.int j) S := q
            show VG _ _ (.int i) _ _ _
            walk_at "gr"
            refine VS.br (fun h2 => ?_) (fun h2 => ?_)
            · rw [if_pos h2] at qy
              walk_at "gr"
              exact qy rfl
            · rw [if_neg h2] at q
              walk_at "gr"
              exact q i rfl
        · have q := q 0 (by unfold ptS; rw [if_pos h1])
          walk_at "gr"
          exact q
      | @o d d' h hns sh =>
        refine rv_neP h.vw .v h.p rfl sh (by decide +kernel) ?_
        rw [show PyData.eqv (pd d') (pd (.str "none")) = stB d' "none" from stB_eqv h.p, show stB d' "none" = false by
          cases d' with
          | str z => exact absurd rfl (hns z)
          | _ => rfl]
        walk_at "gr"
        have hw : StW K S d (stO d') := h.stw
        have eo : stO d' = none := by
          cases d' with
          | str z => exact absurd rfl (hns z)
          | _ => rfl
        rw [eo] at hw
        cases hw with
        | o ht hk =>
          refine ⟨_, rfl, .inr ⟨_, ht, hk, ?_⟩⟩
          walk_at "gr"
          refine ⟨nm, us, none, rfl, g, nofun, ?_⟩
          show VG _ _ .non _ _ _
          walk_at "gr"
          exact qy rfl) only [↓VS.box]
end
end LW
namespace LW
open PySem L2 C8 PySem.Spec PyProof.Rows VS
/-! ### lists of texts compared; perms -/
theorem isP_strs0 : ∀ ms : List Str, isPL (ms.map D.str) = true
  | [] => rfl
  | m :: ms => by
    show (true && isPL (ms.map D.str)) = true
    rw [isP_strs0 ms]; rfl
theorem eqvL_strs2 : ∀ {ms ns : List Str}, PyData.eqvAll (pdL (ms.map D.str)) (pdL (ns.map D.str)) = decide (ms = ns)
  | [], [] => rfl
  | [], _ :: _ => rfl
  | _ :: _, [] => rfl
  | a :: ms, b :: ns => by
    show ((a == b) && PyData.eqvAll (pdL (ms.map D.str)) (pdL (ns.map D.str))) = _
    rw [eqvL_strs2]
    by_cases h : a = b
    · subst h
      by_cases h2 : ms = ns
      · subst h2; simp
      · simp [h2]
    · simp [h]
theorem ok_strB {n : Nat} {z : Str} (h : Asc n z) (hn : n ≤ 19) : Ok (.str z) 200 2 := ⟨(Sh.str h).mono (by omega) (by decide), by show ((pd (.str z)).canLay0 && decide ((pd (.str z)).depth ≤ 64)) = true; rw [asc_ok h.2]; rfl, nofun⟩
theorem ok_strs {ws : List Str} (h : ∀ z ∈ ws, Asc 19 z) (hl : ws.length ≤ 100) : Ok (.lst (ws.map D.str)) 30000 4 :=
  (Ok.lst 100 (n := 200) (k := 2) (fun y hy => by
    obtain ⟨z, hz, rfl⟩ := List.mem_map.mp hy
    exact ok_strB (h z hz) (by decide)) (by rw [List.length_map]; exact hl) (by decide)).mono (by decide) (by decide)
theorem rv_neStrs {c : VS.Ctx} {S : Sto} {F : D → Sto → Prop} {x y : D} {ws vs : List Str} (hx : Vw S x (.lst (ws.map D.str))) (hy : Vw S y (.lst (vs.map D.str))) (h1 : ∀ z ∈ ws, Asc 19 z) (h2 : ∀ z ∈ vs, Asc 19 z) (l1 : ws.length ≤ 100) (l2 : vs.length ≤ 100) (q : F (.bl (!decide (ws = vs))) S) : RV c (rNeP c.K) x y S F := by
  refine rv_neP hx hy (isP_strs0 ws) (isP_strs0 vs) (ok_strs h1 l1).s (ok_strs h2 l2).s ?_
  rw [show PyData.eqv (pd (.lst (ws.map D.str))) (pd (.lst (vs.map D.str))) = PyData.eqvAll (pdL (ws.map D.str)) (pdL (vs.map D.str)) from rfl, eqvL_strs2]
  exact q
theorem rv_eqStrs {c : VS.Ctx} {S : Sto} {F : D → Sto → Prop} {x y : D} {ws vs : List Str} (hx : Vw S x (.lst (ws.map D.str))) (hy : Vw S y (.lst (vs.map D.str))) (h1 : ∀ z ∈ ws, Asc 19 z) (h2 : ∀ z ∈ vs, Asc 19 z) (l1 : ws.length ≤ 100) (l2 : vs.length ≤ 100) (q : F (.bl (decide (ws = vs))) S) : RV c (rEqP c.K) x y S F := by
  refine rv_eqP hx hy (isP_strs0 ws) (isP_strs0 vs) (ok_strs h1 l1).s (ok_strs h2 l2).s ?_
  rw [show PyData.eqv (pd (.lst (ws.map D.str))) (pd (.lst (vs.map D.str))) = PyData.eqvAll (pdL (ws.map D.str)) (pdL (vs.map D.str)) from rfl, eqvL_strs2]
  exact q
end LW
namespace LW
open PySem L2 C8 PySem.Spec PyProof.Rows VS
/-! ### a heap written -/
def p_need_measure (K : PySem.W.Frag) (CM CX : Addr) : Pt := fun ds S G Y => ∃ d, ds = [d] ∧ ((∃ nm us, d = msD CM nm us ∧ G .non S) ∨ ∃ t, OfC K S d t ∧ PySem.W.kitOne K t (.ref CM) = some false ∧ Y CX [("found", d)] S)
/-- three sizes -/
def t3S (us : List (Str × Int)) (a b c : Int) : Str := Txt.join " x " [txS us a, txS us b, txS us c]
/-- a parcel's row up to the weight -/
def fwW (us : List (Str × Int)) (p : Pc) : List Str := [p.nm, t3S us p.a p.b p.c, "wall", txS us p.wl, "weight", nS p.wt]
/-- labels as words -/
def lbW : List Str → List Str
  | [] => []
  | m :: ms => "label" :: m :: lbW ms
def prW (us : List (Str × Int)) (p : Pc) : List Str := fwW us p ++ [("bears" : Str), nS p.br] ++ lbW p.mk
def prS (us : List (Str × Int)) (p : Pc) : Str := Txt.join " " (prW us p)
def hpS (us : List (Str × Int)) (ps : List Pc) : Str := Txt.join "\n" (ps.map (prS us))
def p_front_words (CM CP CS : Addr) : Pt := fun ds S G _ => ∃ (p : Pc) (nm : Str) (us : List (Str × Int)), ds = [p.d CP CS, msD CM nm us] ∧ Ug us ∧ p.g ∧ G (.lst ((fwW us p).map D.str)) S
def p_parcel_row (CM CP CS : Addr) : Pt := fun ds S G _ => ∃ (p : Pc) (nm : Str) (us : List (Str × Int)), ds = [p.d CP CS, msD CM nm us] ∧ Ug us ∧ p.g ∧ G (.str (prS us p)) S
def p_show_heap (CM CH CP CS : Addr) : Pt := fun ds S G _ => ∃ x ps nm us, ds = [x, msD CM nm us] ∧ IsHp S CH CP CS x ps ∧ (∀ p ∈ ps, p.g) ∧ ps.length ≤ 12 ∧ Ug us ∧ G (.str (hpS us ps)) S
theorem ms_tx {K : PySem.W.Frag} {CM CN : Addr} {nm : Str} {us : List (Str × Int)} {i : Int} {S : Sto} {G : D → Sto → Prop} {Y : Addr → List (Str × D) → Sto → Prop} (g : Ug us) (i0 : 0 ≤ i) (i1 : i ≤ 1000000) (q : G (.str (txS us i)) S) : p_Ms_text K CM CN [msD CM nm us, .int i] S G Y :=
  ⟨nm, us, _, some i, rfl, g, .i i, fun z => (by rw [whB_of ⟨i0, i1⟩] at z; cases z), fun j e _ _ => (by cases e; exact q)⟩
def txD (us : List (Str × Int)) : D → D
  | .int i => .str (txS us i)
  | _ => .non
theorem t3S_asc {us : List (Str × Int)} {a b c : Int} (g : Ug us) (ha : In1 a) (hb : In1 b) (hc : In1 c) : Asc 333 (t3S us a b c) := by
  have a1 := txS_asc g (n := a) ⟨by have := ha.1; omega, by have := ha.2; omega⟩
  have b1 := txS_asc g (n := b) ⟨by have := hb.1; omega, by have := hb.2; omega⟩
  have c1 := txS_asc g (n := c) ⟨by have := hc.1; omega, by have := hc.2; omega⟩
  exact (Asc.join (n := 3) (m := 108) (k := 3) (Asc.lit (by decide +kernel)) (by
    intro y hy
    simp only [List.mem_cons, List.not_mem_nil, or_false] at hy
    rcases hy with rfl | rfl | rfl <;> assumption) (Nat.le_refl _)).mono (by decide)
theorem lbW_len : ∀ ms : List Str, (lbW ms).length = 2 * ms.length
  | [] => rfl
  | m :: ms => by
    show (lbW ms).length + 2 = 2 * (ms.length + 1)
    rw [lbW_len ms]
    omega
theorem lbW_app : ∀ (ms : List Str) (m : Str), lbW (ms ++ [m]) = lbW ms ++ [("label" : Str), m]
  | [], _ => rfl
  | a :: ms, m => by
    show ("label" : Str) :: a :: lbW (ms ++ [m]) = ("label" : Str) :: a :: (lbW ms ++ [("label" : Str), m])
    rw [lbW_app ms m]
theorem lbW_mem : ∀ {ms : List Str} {y : Str}, y ∈ lbW ms → y = "label" ∨ y ∈ ms
  | m :: ms, y, h => by
    have h : y ∈ ("label" : Str) :: m :: lbW ms := h
    rcases List.mem_cons.mp h with rfl | h
    · exact .inl rfl
    · rcases List.mem_cons.mp h with rfl | h
      · exact .inr List.mem_cons_self
      · exact (lbW_mem h).imp id (List.mem_cons_of_mem _)
theorem prW_asc {us : List (Str × Int)} {p : Pc} (g : Ug us) (h : p.g) : ∀ y ∈ prW us p, Asc 333 y := fun y hy => by
  have wl := h.wl
  have wt := h.wt
  have br := h.br
  unfold prW fwW at hy
  rcases List.mem_append.mp hy with hy | hy
  · simp only [List.mem_cons, List.not_mem_nil, or_false, List.cons_append, List.nil_append] at hy
    rcases hy with rfl | rfl | rfl | rfl | rfl | rfl | rfl | rfl
    · exact h.asc.mono (by decide)
    · exact t3S_asc g h.a h.b h.c
    · exact (Asc.lit (n := 4) (by decide +kernel)).mono (by decide)
    · exact (txS_asc g ⟨by omega, by omega⟩).mono (by decide)
    · exact (Asc.lit (n := 6) (by decide +kernel)).mono (by decide)
    · exact (nS_asc wt.1 (by omega)).mono (by decide)
    · exact (Asc.lit (n := 5) (by decide +kernel)).mono (by decide)
    · exact (nS_asc br.1 (by omega)).mono (by decide)
  · rcases lbW_mem hy with rfl | hy
    · exact (Asc.lit (n := 5) (by decide +kernel)).mono (by decide)
    · exact (labs_asc (h.lb.e y hy)).mono (by decide)
theorem prW_len {us : List (Str × Int)} {p : Pc} (h : p.g) : (prW us p).length ≤ 14 := by
  have := h.lb.l
  unfold prW
  rw [List.length_append, lbW_len]
  show 8 + _ ≤ 14
  omega
theorem prS_asc {us : List (Str × Int)} {p : Pc} (g : Ug us) (h : p.g) : Asc 5000 (prS us p) := (Asc.join (n := 14) (m := 333) (k := 1) (Asc.lit (by decide +kernel)) (prW_asc g h) (prW_len h)).mono (by decide)
theorem hp_sum {us : List (Str × Int)} (g : Ug us) : ∀ ps : List Pc, (∀ p ∈ ps, p.g) → ((ps.map (prS us)).map (·.length)).sum ≤ 5000 * ps.length
  | [], _ => Nat.le_refl _
  | p :: ps, h => by
    have k1 := (prS_asc g (h p List.mem_cons_self)).1
    have k2 := hp_sum g ps fun z hz => h z (List.mem_cons_of_mem _ hz)
    rw [List.map_cons, List.map_cons, List.sum_cons, List.length_cons]
    omega
theorem sum_asc {n : Nat} : ∀ {ws : List Str}, (∀ y ∈ ws, Asc n y) → (ws.map (·.length)).sum ≤ n * ws.length
  | [], _ => Nat.le_refl _
  | w :: ws, h => by
    have k1 := (h w List.mem_cons_self).1
    have k2 := sum_asc fun z hz => h z (List.mem_cons_of_mem _ hz)
    rw [List.map_cons, List.sum_cons, List.length_cons, Nat.mul_succ]
    omega
/-- a parcel's row, of a thing -/
def pcT (us : List (Str × Int)) : D → D
  | .ins _ [(_, .str nm), (_, .ins _ [(_, .tup [.int a, .int b, .int c])]), (_, .int wl), (_, .int wt), (_, .int br), (_, .lst ms)] => .str (prS us ⟨nm, a, b, c, wl, wt, br, ms.map fun m => match m with | .str z => z | _ => Str.empty⟩)
  | _ => .non
theorem pcT_p {CP CS : Addr} (us : List (Str × Int)) (p : Pc) : pcT us (p.d CP CS) = .str (prS us p) := by
  show D.str (prS us ⟨p.nm, p.a, p.b, p.c, p.wl, p.wt, p.br, _⟩) = _
  rw [List.map_map, show ((fun m : D => match m with | .str z => z | _ => Str.empty) ∘ D.str) = id from rfl, List.map_id]
section
variable {P : Program} {w : World} {K : PySem.W.Frag} {mg : Str → Option Value} {base : Heap}
theorem ok_need_measure {f : Addr} {fd : FuncData} {C_Measure C_Sides C_Parcel C_Heap C_NoNumber C_NoSize C_NoMeasure C_NoSide C_NoOrder C_NoSides : Addr}
    (F : Fd K "need_measure" "need_measure" s_need_measure [] f fd) (T : Tx K mg) (hsys : SysOk base)
    (x_NoMeasure : Xc P w K mg base "NoMeasure" C_NoMeasure "found")
    (k_Measure : Kl_Measure K mg C_Measure) :
    FnG P w K mg base (L2.CX P w) 3 f fd a_need_measure (spOf K (p_need_measure K C_Measure C_NoMeasure)) := by
  refine VS.unbox ?_
  simp (disch := with_unfolding_all
    have kc_Measure := k_Measure.ins.cl
    have ka_Measure_called := k_Measure.a_called
    have ka_Measure_parts := k_Measure.a_parts
    refine fn_val F sc_need_measure (fun ds S G Y h => ?_) (fun cdv A hgd outer s H E hr px tk po ds S G Y h => ?_)
    · obtain ⟨d, rfl, _⟩ := h
      rfl
    · obtain ⟨d, rfl, h⟩ := h
      refine ⟨_, (pss_one (ps_if (pt_not (pt_val (pe_callB c_isiZ (by rfl) T.b_isinstance (by decide +kernel) (pa_cons (pv 0) (pa_cons (pe_gc (v := .ref C_Measure) (by rfl) ⟨_, k_Measure.at_, rfl⟩) pa_nil))))) (pss_one (ps_rz tk x_NoMeasure (hr.mono (by decide)) (by rfl) (pv 0)))
        pss_nil)), ?_⟩
      (try dsimp only [cxOf, List.map])
      show VX _ _ [_] _ _
      walk_at "gr"
      rcases h with ⟨nm, us, rfl, q⟩ | ⟨t, ot, kt, q⟩
      · refine rc_isiO (.i .v k_Measure.ins) k_Measure.ins.me ?_
        walk_at "gr"
        exact q
      · refine rc_isiO ot kt ?_
        walk_at "gr"
        exact q) only [↓VS.box]
theorem ok_front_words {f : Addr} {fd : FuncData} {C_Measure C_Sides C_Parcel C_Heap C_NoNumber C_NoSize C_NoMeasure C_NoSide C_NoOrder C_NoSides : Addr} {f_Measure_text f_Sides_told f_Parcel_sides f_Parcel_name f_Parcel_wall f_Parcel_weight : Addr} {g_Measure_text g_Sides_told g_Parcel_sides g_Parcel_name g_Parcel_wall g_Parcel_weight : FuncData}
    (F : Fd K "front_words" "front_words" s_front_words [] f fd) (T : Tx K mg) (hsys : SysOk base)
    (c_Measure_text : Mf P w K mg base 3 C_Measure "text" "Measure.text" s_Measure_text [] a_Measure_text (p_Ms_text K C_Measure C_NoNumber) f_Measure_text g_Measure_text)
    (c_Sides_told : Mf P w K mg base 1 C_Sides "told" "Sides.told" s_Sides_told [] a_Sides_told (p_told C_Sides) f_Sides_told g_Sides_told)
    (c_Parcel_sides : Mf P w K mg base 1 C_Parcel "sides" "Parcel.sides" s_Parcel_sides [] a_Parcel_sides (p_Pc_sides C_Parcel C_Sides) f_Parcel_sides g_Parcel_sides)
    (c_Parcel_name : Mf P w K mg base 1 C_Parcel "name" "Parcel.name" s_Parcel_name [] a_Parcel_name (p_Pc_name C_Parcel C_Sides) f_Parcel_name g_Parcel_name)
    (c_Parcel_wall : Mf P w K mg base 1 C_Parcel "wall" "Parcel.wall" s_Parcel_wall [] a_Parcel_wall (p_Pc_wall C_Parcel C_Sides) f_Parcel_wall g_Parcel_wall)
    (c_Parcel_weight : Mf P w K mg base 1 C_Parcel "weight" "Parcel.weight" s_Parcel_weight [] a_Parcel_weight (p_Pc_weight C_Parcel C_Sides) f_Parcel_weight g_Parcel_weight)
    (k_Measure : Kl_Measure K mg C_Measure)
    (k_Parcel : Kl_Parcel K mg C_Parcel)
    (k_Sides : Kl_Sides K mg C_Sides) :
    FnG P w K mg base (L2.CX P w) 6 f fd a_front_words (spOf K (p_front_words C_Measure C_Parcel C_Sides)) := by
  refine VS.unbox ?_
  simp (disch := with_unfolding_all
    have kc_Measure := k_Measure.ins.cl
    have ka_Measure_called := k_Measure.a_called
    have ka_Measure_parts := k_Measure.a_parts
    have kc_Parcel := k_Parcel.ins.cl
    have ka_Parcel_called := k_Parcel.a_called
    have ka_Parcel_outside := k_Parcel.a_outside
    have ka_Parcel_thick := k_Parcel.a_thick
    have ka_Parcel_heavy := k_Parcel.a_heavy
    have ka_Parcel_strong := k_Parcel.a_strong
    have ka_Parcel_marks := k_Parcel.a_marks
    have kc_Sides := k_Sides.ins.cl
    have ka_Sides_three := k_Sides.a_three
    refine fn_val F sc_front_words (fun ds S G Y h => ?_) (fun cdv A hgd outer s H E hr px tk po ds S G Y h => ?_)
    · obtain ⟨p, nm, us, rfl, _⟩ := h
      rfl
    · obtain ⟨p, nm, us, rfl, g, hp, q⟩ := h
      refine ⟨_, (pss_cons (ps_setLc (i := 2) (own := [("side", 3)]) rfl sc_front_words.nd rfl rfl (sw_true rfl rfl rfl (by decide +kernel)) (pi_tup (pe_mG0 (pe_mG0 (pv 0) c_Parcel_sides.cl c_Parcel_sides.me c_Parcel_sides.fn hgd (hr.mono (by decide)) c_Parcel_sides.b .nil VS.pass0) c_Sides_told.cl c_Sides_told.me c_Sides_told.fn hgd (hr.mono (by decide)) c_Sides_told.b .nil VS.pass0)) (blkOk_by (own := [("side", 3)]) (N := n_front_words) (sc := defScope s_front_words) (by decide +kernel)) (fun _ _ _ _ _ => (pg_name (i := 3) sc_front_words.nd rfl (Or.inl rfl))) (fun _ _ _ _ _ => pts_nil) (fun _ _ _ _ _ => (pe_mG (pv 1) c_Measure_text.cl c_Measure_text.me c_Measure_text.fn hgd (hr.mono (by decide)) c_Measure_text.b .nil VS.pass0 (pa_cons (pv 3) pa_nil))))
        (pss_one (ps_ret (pe_lst (pa_cons (pe_mG0 (pv 0) c_Parcel_name.cl c_Parcel_name.me c_Parcel_name.fn hgd (hr.mono (by decide)) c_Parcel_name.b .nil VS.pass0) (pa_cons (pe_m1 PySem.F.slot_str_join PySem.F.type_str_join m_join pe_str (pv 2)) (pa_cons pe_str (pa_cons (pe_mG (pv 1) c_Measure_text.cl c_Measure_text.me c_Measure_text.fn hgd (hr.mono (by decide)) c_Measure_text.b .nil VS.pass0 (pa_cons (pe_mG0 (pv 0) c_Parcel_wall.cl c_Parcel_wall.me c_Parcel_wall.fn hgd (hr.mono (by decide)) c_Parcel_wall.b .nil VS.pass0) pa_nil)) (pa_cons pe_str (pa_cons (pe_callTy c_strInt (by rfl) T.b_str (by decide +kernel) (pa_cons (pe_mG0 (pv 0) c_Parcel_weight.cl c_Parcel_weight.me c_Parcel_weight.fn hgd (hr.mono (by decide)) c_Parcel_weight.b .nil VS.pass0) pa_nil)) pa_nil)))))))))), ?_⟩
      (try dsimp only [cxOf, List.map])
      show VX _ _ [_, _, _, _] _ _
      have sz := szl
      have wl := hp.wl
      have wt := hp.wt
      have a1 := hp.a
      have b1 := hp.b
      have c1 := hp.c
      have ta := txS_asc g (n := p.a) ⟨by have := hp.a.1; omega, by have := hp.a.2; omega⟩
      have tb := txS_asc g (n := p.b) ⟨by have := hp.b.1; omega, by have := hp.b.2; omega⟩
      have tc := txS_asc g (n := p.c) ⟨by have := hp.c.1; omega, by have := hp.c.2; omega⟩
      unfold Pc.d
      walk_at "gr"
      refine ve_lcM (txD us) (vi_tup ?_)
      walk_at "gr"
      refine ⟨_, _, _, _, _, _, _, _, rfl, ?_⟩
      walk_at "gr"
      refine ⟨[.int p.a, .int p.b, .int p.c], rfl, by show 3 ≤ 100000; decide, fun d hd => ?_, ?_⟩
      · obtain ⟨i, rfl, hi⟩ : ∃ i, d = .int i ∧ In1 i := by
          simp only [List.mem_cons, List.not_mem_nil, or_false] at hd
          rcases hd with rfl | rfl | rfl
          · exact ⟨_, rfl, a1⟩
          · exact ⟨_, rfl, b1⟩
          · exact ⟨_, rfl, c1⟩
        walk_at "gr"
        refine ⟨rfl, ?_⟩
        walk_at "gr"
        exact ms_tx g (by have := hi.1; omega) (by have := hi.2; omega) ⟨rfl, rfl⟩
      rw [show ([D.int p.a, .int p.b, .int p.c].map (txD us)) = [txS us p.a, txS us p.b, txS us p.c].map D.str from rfl]
      walk_at "gr"
      refine ve_lst ?_
      walk_at "gr"
      refine ⟨_, _, _, _, _, _, _, _, rfl, ?_⟩
      walk_at "gr"
      have l3 : (Str.ofString " x ").length = 3 := by decide
      have a2 := ta.1
      have b2 := tb.1
      have c2 := tc.1
      refine rm_join (ys := [txS us p.a, txS us p.b, txS us p.c]) (.l .v) (by simp only [List.map_cons, List.map_nil, List.sum_cons, List.sum_nil, List.length_cons, List.length_nil]; rw [l3]; omega) ?_
      walk_at "gr"
      refine ⟨_, _, _, _, _, _, _, _, rfl, ?_⟩
      walk_at "gr"
      refine ms_tx g (by omega) (by omega) ?_
      walk_at "gr"
      refine ⟨_, _, _, _, _, _, _, _, rfl, ?_⟩
      walk_at "gr"
      exact q) only [↓VS.box]
theorem ok_parcel_row {f : Addr} {fd : FuncData} {C_Measure C_Sides C_Parcel C_Heap C_NoNumber C_NoSize C_NoMeasure C_NoSide C_NoOrder C_NoSides : Addr} {f_front_words f_Parcel_bears f_Parcel_labels : Addr} {g_front_words g_Parcel_bears g_Parcel_labels : FuncData}
    (F : Fd K "parcel_row" "parcel_row" s_parcel_row [] f fd) (T : Tx K mg) (hsys : SysOk base)
    (c_front_words : Cf P w K mg base (L2.CX P w) 6 "front_words" s_front_words [] a_front_words (p_front_words C_Measure C_Parcel C_Sides) f_front_words g_front_words)
    (c_Parcel_bears : Mf P w K mg base 1 C_Parcel "bears" "Parcel.bears" s_Parcel_bears [] a_Parcel_bears (p_Pc_bears C_Parcel C_Sides) f_Parcel_bears g_Parcel_bears)
    (c_Parcel_labels : Mf P w K mg base 1 C_Parcel "labels" "Parcel.labels" s_Parcel_labels [] a_Parcel_labels (p_Pc_labelsB C_Parcel C_Sides) f_Parcel_labels g_Parcel_labels)
    (k_Measure : Kl_Measure K mg C_Measure)
    (k_Parcel : Kl_Parcel K mg C_Parcel)
    (k_Sides : Kl_Sides K mg C_Sides) :
    FnG P w K mg base (L2.CX P w) 7 f fd a_parcel_row (spOf K (p_parcel_row C_Measure C_Parcel C_Sides)) := by
  refine VS.unbox ?_
  simp (disch := with_unfolding_all
    have kc_Measure := k_Measure.ins.cl
    have ka_Measure_called := k_Measure.a_called
    have ka_Measure_parts := k_Measure.a_parts
    have kc_Parcel := k_Parcel.ins.cl
    have ka_Parcel_called := k_Parcel.a_called
    have ka_Parcel_outside := k_Parcel.a_outside
    have ka_Parcel_thick := k_Parcel.a_thick
    have ka_Parcel_heavy := k_Parcel.a_heavy
    have ka_Parcel_strong := k_Parcel.a_strong
    have ka_Parcel_marks := k_Parcel.a_marks
    have kc_Sides := k_Sides.ins.cl
    have ka_Sides_three := k_Sides.a_three
    refine fn_val F sc_parcel_row (fun ds S G Y h => ?_) (fun cdv A hgd outer s H E hr px tk po ds S G Y h => ?_)
    · obtain ⟨p, nm, us, rfl, _⟩ := h
      rfl
    · obtain ⟨p, nm, us, rfl, g, hp, q⟩ := h
      refine ⟨_, (pss_cons (ps_set (i := 2) sc_parcel_row.nd rfl (Or.inl rfl) (pe_op op_cat (pe_cG c_front_words.fn hgd (hr.mono (by decide)) (by rfl) c_front_words.mg c_front_words.kp c_front_words.b .nil VS.pass0 (pa_cons (pv 0) (pa_cons (pv 1) pa_nil))) (pe_lst (pa_cons pe_str (pa_cons (pe_callTy c_strInt (by rfl) T.b_str (by decide +kernel) (pa_cons (pe_mG0 (pv 0) c_Parcel_bears.cl c_Parcel_bears.me c_Parcel_bears.fn hgd (hr.mono (by decide)) c_Parcel_bears.b .nil VS.pass0) pa_nil)) pa_nil)))))
        (pss_cons (ps_for po rfl (pi_list (pe_mG0 (pv 0) c_Parcel_labels.cl c_Parcel_labels.me c_Parcel_labels.fn hgd (hr.mono (by decide)) c_Parcel_labels.b .nil VS.pass0)) (pg_name (i := 3) sc_parcel_row.nd rfl (Or.inl rfl))
        (pss_one (ps_expr (pe_bm PySem.F.plainAttrs_list PySem.F.slot_list_extend PySem.F.type_list_extend mt_extend (pv 2) (pa_cons (pe_lst (pa_cons pe_str (pa_cons (pv 3) pa_nil))) pa_nil)))))
        (pss_one (ps_ret (pe_m1 PySem.F.slot_str_join PySem.F.type_str_join m_join pe_str (pv 2)))))), ?_⟩
      (try dsimp only [cxOf, List.map])
      show VX _ _ [_, _, _, _] _ _
      have sz := szl
      have br := hp.br
      have lb := hp.lb.l
      walk_at "gr"
      refine ⟨p, nm, us, rfl, g, hp, ?_⟩
      walk_at "gr"
      refine ve_lst ?_
      walk_at "gr"
      refine ⟨_, _, _, _, _, _, _, _, rfl, ?_⟩
      walk_at "gr"
      refine rv_catc .v .v (by show 6 + 2 ≤ sizeLine; omega) fun l hl => ?_
      have c0 : put S l (.lst ((fwW us p).map D.str ++ [.str "bears", .str (nS p.br)])) l = some (.lst ((fwW us p ++ [("bears" : Str), nS p.br] ++ lbW (p.mk.take 0)).map D.str)) := by
        rw [put_same]
        rfl
      walk_at "gr"
      refine vx_for (vi_list ?_)
      walk_at "gr"
      refine ⟨_, _, _, _, _, _, _, _, rfl, .inr ?_⟩
      refine ⟨_, .v, fun i ρ2 S2 => S2 = put S l (.lst ((fwW us p ++ [("bears" : Str), nS p.br] ++ lbW (p.mk.take i)).map D.str)) ∧ ∃ x3, ρ2 = [some (p.d C_Parcel C_Sides), some (msD C_Measure nm us), some (.ref l), x3], ⟨rfl, _, rfl⟩, ?_, ?_⟩
      · rintro i d ρ2 S2 hd ⟨rfl, x3, rfl⟩
        rw [List.getElem?_map] at hd
        obtain ⟨y, hy, rfl⟩ := Option.map_eq_some_iff.mp hd
        have hi : i < p.mk.length := (List.getElem?_eq_some_iff.mp hy).1
        have tk : p.mk.take (i + 1) = p.mk.take i ++ [y] := by rw [List.take_succ, hy]; rfl
        have tl : (lbW (p.mk.take i)).length ≤ 6 := by rw [lbW_len, List.length_take]; omega
        walk_at "gr"
        refine ve_lst ?_
        walk_at "gr"
        refine rm_extend (ds := (fwW us p ++ [("bears" : Str), nS p.br] ++ lbW (p.mk.take i)).map D.str) (es := [.str "label", .str y]) put_same .v (by rw [List.length_map, List.length_append]; show 8 + _ + 2 ≤ sizeLine; omega) ?_
        rw [put_put]
        refine ⟨?_, _, rfl⟩
        rw [tk, lbW_app, ← List.append_assoc, List.map_append (l₂ := [("label" : Str), y])]
        rfl
      · rintro ρ2 S2 ⟨rfl, x3, rfl⟩
        rw [List.length_map, List.take_length]
        refine vx_freeze 2 rfl put_same ?_
        rw [del_put hl]
        have q : G (.str (Txt.join (Str.ofString " ") (prW us p))) S := q
        walk_at "gr"
        refine rm_join (ys := prW us p) (.l .v) ?_ q
        have k1 := sum_asc (prW_asc g hp)
        have k2 := prW_len (us := us) hp
        have k3 := Nat.mul_le_mul_left 333 k2
        rw [show (Str.ofString " ").length = 1 from by decide]
        omega) only [↓VS.box]
theorem ok_show_heap {f : Addr} {fd : FuncData} {C_Measure C_Sides C_Parcel C_Heap C_NoNumber C_NoSize C_NoMeasure C_NoSide C_NoOrder C_NoSides : Addr} {f_need_measure f_parcel_row f_Heap_parcels : Addr} {g_need_measure g_parcel_row g_Heap_parcels : FuncData}
    (F : Fd K "show_heap" "show_heap" s_show_heap [] f fd) (T : Tx K mg) (hsys : SysOk base)
    (c_need_measure : Cf P w K mg base (L2.CX P w) 3 "need_measure" s_need_measure [] a_need_measure (p_need_measure K C_Measure C_NoMeasure) f_need_measure g_need_measure)
    (c_parcel_row : Cf P w K mg base (L2.CX P w) 7 "parcel_row" s_parcel_row [] a_parcel_row (p_parcel_row C_Measure C_Parcel C_Sides) f_parcel_row g_parcel_row)
    (c_Heap_parcels : Mf P w K mg base 1 C_Heap "parcels" "Heap.parcels" s_Heap_parcels [] a_Heap_parcels (p_Hp_parcels C_Heap C_Parcel C_Sides) f_Heap_parcels g_Heap_parcels)
    (k_Measure : Kl_Measure K mg C_Measure)
    (k_Heap : Kl_Heap K mg C_Heap)
    (k_Parcel : Kl_Parcel K mg C_Parcel)
    (k_Sides : Kl_Sides K mg C_Sides) :
    FnG P w K mg base (L2.CX P w) 8 f fd a_show_heap (spOf K (p_show_heap C_Measure C_Heap C_Parcel C_Sides)) := by
  refine VS.unbox ?_
  simp (disch := with_unfolding_all
    have kc_Measure := k_Measure.ins.cl
    have ka_Measure_called := k_Measure.a_called
    have ka_Measure_parts := k_Measure.a_parts
    have kc_Heap := k_Heap.ins.cl
    have ka_Heap_held := k_Heap.a_held
    have kc_Parcel := k_Parcel.ins.cl
    have ka_Parcel_called := k_Parcel.a_called
    have ka_Parcel_outside := k_Parcel.a_outside
    have ka_Parcel_thick := k_Parcel.a_thick
    have ka_Parcel_heavy := k_Parcel.a_heavy
    have ka_Parcel_strong := k_Parcel.a_strong
    have ka_Parcel_marks := k_Parcel.a_marks
    have kc_Sides := k_Sides.ins.cl
    have ka_Sides_three := k_Sides.a_three
    refine fn_val F sc_show_heap (fun ds S G Y h => ?_) (fun cdv A hgd outer s H E hr px tk po ds S G Y h => ?_)
    · obtain ⟨x, ps, nm, us, rfl, _⟩ := h
      rfl
    · obtain ⟨x, ps, nm, us, rfl, hx, hp, hl, g, q⟩ := h
      refine ⟨_, (pss_cons (ps_expr (pe_cG c_need_measure.fn hgd (hr.mono (by decide)) (by rfl) c_need_measure.mg c_need_measure.kp c_need_measure.b .nil px (pa_cons (pv 1) pa_nil)))
        (pss_one (ps_ret (pe_m1 PySem.F.slot_str_join PySem.F.type_str_join m_join pe_str (pe_lc (own := [("parcel", 2)]) rfl sc_show_heap.nd (pi_list (pe_mG0 (pv 0) c_Heap_parcels.cl c_Heap_parcels.me c_Heap_parcels.fn hgd (hr.mono (by decide)) c_Heap_parcels.b .nil VS.pass0)) (blkOk_by (own := [("parcel", 2)]) (N := n_show_heap) (sc := defScope s_show_heap) (by decide +kernel)) (fun _ _ _ _ _ => (pg_name (i := 2) sc_show_heap.nd rfl (Or.inl rfl))) (fun _ _ _ _ _ => pts_nil) (fun _ _ _ _ _ => (pe_cG c_parcel_row.fn hgd (hr.mono (by decide)) (by rfl) c_parcel_row.mg c_parcel_row.kp c_parcel_row.b .nil VS.pass0 (pa_cons (pv 2) (pa_cons (pv 1) pa_nil))))))))), ?_⟩
      (try dsimp only [cxOf, List.map])
      show VX _ _ [_, _, _] _ _
      have sz := szl
      walk_at "gr"
      refine ⟨_, rfl, .inl ⟨nm, us, rfl, ?_⟩⟩
      walk_at "gr"
      refine ve_lcM (pcT us) (vi_list ?_)
      walk_at "gr"
      obtain ⟨dh, ih, qh⟩ := hx
      refine ⟨_, ih, rfl, ?_⟩
      walk_at "gr"
      refine ⟨_, ps, rfl, ⟨dh, ih, qh⟩, ?_⟩
      refine ⟨_, .v, by rw [List.length_map]; omega, fun d hd => ?_, ?_⟩
      · obtain ⟨p, hm, rfl⟩ := List.mem_map.mp hd
        walk_at "gr"
        refine ⟨rfl, ?_⟩
        walk_at "gr"
        exact ⟨p, nm, us, rfl, g, hp p hm, (pcT_p us p).symm, rfl⟩
      have em : (ps.map (Pc.d C_Parcel C_Sides)).map (pcT us) = (ps.map (prS us)).map D.str := by rw [List.map_map, List.map_map]; exact List.map_congr_left fun p hp => pcT_p us p
      rw [em]
      walk_at "gr"
      refine rm_join (.l .v) ?_ q
      have k3 := hp_sum g ps hp
      rw [List.length_map, show (Str.ofString "\n").length = 1 from by decide]
      omega) only [↓VS.box]
end
end LW
namespace LW
open PySem L2 C8 PySem.Spec PyProof.Rows VS
/-! ### rows of prices, and their words -/
/-- a limit as words: `any`, or a size so written -/
inductive Lt (us : List (Str × Int)) : Option Int → List Str → Prop
  | any : Lt us none [("any" : Str)]
  | zero : Lt us (some 0) [("none" : Str)]
  | size {uts : UT} {r : Int} (e : uts.map (·.1) = us) (ok : UtOk uts r) (l : tot uts r ≤ 1000000) (ne : wrW uts r ≠ []) : Lt us (some (tot uts r)) (wrW uts r)
def ltS (ws : List Str) : Str := Txt.join " " ws
theorem nS_nk {i : Int} (h : 0 ≤ i) : nS i ∉ kepts := fun z => by
  obtain ⟨a, b⟩ := nS_digits h
  have key : ∀ k ∈ kepts, ∃ c ∈ k.cps.toList, 97 ≤ c := by decide +kernel
  obtain ⟨c, hc, h2⟩ := key _ z
  have := b c hc
  omega
theorem Lt.ne {us : List (Str × Int)} {o : Option Int} {ws : List Str} (h : Lt us o ws) : ws ≠ [] := by
  cases h with
  | any => exact List.cons_ne_nil _ _
  | zero => exact List.cons_ne_nil _ _
  | size e ok l ne => exact ne
/-- words that may stand in a text -/
def Wdy (y : Str) : Prop := y.cps.toList ≠ [] ∧ ∀ c ∈ y.cps.toList, 48 ≤ c ∧ c ≤ 122
theorem Lt.wd {us : List (Str × Int)} {o : Option Int} {ws : List Str} (h : Lt us o ws) : ∀ y ∈ ws, Wdy y := by
  cases h with
  | any => intro y hy; rw [List.mem_singleton.mp hy]; exact ⟨by decide +kernel, by decide +kernel⟩
  | zero => intro y hy; rw [List.mem_singleton.mp hy]; exact ⟨by decide +kernel, by decide +kernel⟩
  | size e ok l ne => exact wr_words ok
/-- it is read -/
theorem Lt.read {us : List (Str × Int)} {i : Int} {ws : List Str} (h : Lt us (some i) ws) : ptS us (ltS ws) = some i := by
  cases h with
  | zero =>
    unfold ptS ltS
    rw [if_pos (by decide +kernel)]
  | @size uts r e ok l ne =>
    have := pt_wr ok l
    unfold wrS at this
    rw [if_neg ne, e] at this
    exact this
/-- a size as it is written -/
theorem lt_tx {us : List (Str × Int)} {n : Int} (g : Ug us) (h : 0 ≤ n ∧ n ≤ 1000000) : ∃ ws, Lt us (some n) ws ∧ ltS ws = txS us n := by
  by_cases e : wrW (dgU us n) (dgR us n) = []
  · have h0 := wr_tot0 (dg_ok g.u g.d h.1 h.2) e
    rw [dg_tot] at h0
    subst h0
    refine ⟨[("none" : Str)], .zero, ?_⟩
    rw [txS_wr]
    unfold wrS
    rw [if_pos e]
    decide +kernel
  · have k := Lt.size (us := us) (dg_map us n) (dg_ok g.u g.d h.1 h.2) (by rw [dg_tot]; exact h.2) e
    rw [dg_tot] at k
    refine ⟨_, k, ?_⟩
    rw [txS_wr]
    unfold wrS
    rw [if_neg e]
    rfl
theorem lt_wr {us : List (Str × Int)} {uts : UT} {r n : Int} (e : uts.map (·.1) = us) (ok : UtOk uts r) (ht : tot uts r = n) (l : n ≤ 1000000) : ∃ ws, Lt us (some n) ws ∧ ltS ws = wrS uts r := by
  by_cases e2 : wrW uts r = []
  · have h0 := wr_tot0 ok e2
    rw [ht] at h0
    subst h0
    refine ⟨[("none" : Str)], .zero, ?_⟩
    unfold wrS
    rw [if_pos e2]
    decide +kernel
  · subst ht
    refine ⟨_, .size e ok l e2, ?_⟩
    unfold wrS
    rw [if_neg e2]
    rfl
end LW
namespace LW
open PySem L2 C8 PySem.Spec PyProof.Rows VS
/-! ### words parted, sizes read -/
/-- words, marks between -/
def glue : List (List Str) → List Str → List Str → List Str
  | [], _, last => last
  | _ :: _, [], last => last
  | s :: ss, m :: ms, last => s ++ [m] ++ glue ss ms last
def p_parted75 : Pt := fun ds S G _ => ∃ (ss : List (List Str)) (ms last : List Str), ds = [.lst ((glue ss ms last).map D.str), .tup (ms.map D.str)] ∧ ss.length = ms.length ∧ ms.length ≤ 8 ∧ (glue ss ms last).length ≤ 1000 ∧ (∀ s ∈ ss, ∀ m ∈ ms, m ∉ s) ∧
  G (.lst ((ss ++ [last]).map fun s => .lst (s.map D.str))) S
theorem glue_drop : ∀ {ss : List (List Str)} {ms last : List Str} {i : Nat}, ss.length = ms.length → ∀ {s : List Str} {m : Str}, ss[i]? = some s → ms[i]? = some m → glue (ss.drop i) (ms.drop i) last = s ++ [m] ++ glue (ss.drop (i + 1)) (ms.drop (i + 1)) last
  | s :: ss, m :: ms, last, 0, _, _, _, h1, h2 => by cases h1; cases h2; rfl
  | s :: ss, m :: ms, last, i + 1, hl, _, _, h1, h2 => glue_drop (ss := ss) (ms := ms) (i := i) (Nat.succ.inj hl) h1 h2
theorem glue_end {ss : List (List Str)} {ms last : List Str} (h : ss.length = ms.length) : glue (ss.drop ms.length) (ms.drop ms.length) last = last := by
  rw [List.drop_length, ← h, List.drop_length]
  rfl
theorem glue_len : ∀ {ss : List (List Str)} {ms last : List Str} (i : Nat), (glue (ss.drop i) (ms.drop i) last).length ≤ (glue ss ms last).length
  | ss, ms, last, 0 => Nat.le_refl _
  | [], ms, last, i + 1 => Nat.le_refl _
  | s :: ss, [], last, i + 1 => by
    show (glue (ss.drop i) [] last).length ≤ last.length
    cases ss.drop i <;> exact Nat.le_refl _
  | s :: ss, m :: ms, last, i + 1 => by
    have := glue_len (ss := ss) (ms := ms) (last := last) i
    show (glue (ss.drop i) (ms.drop i) last).length ≤ (s ++ [m] ++ glue ss ms last).length
    rw [List.length_append]
    omega
theorem cutD_to {α : Type} (f : α → D) (ws : List α) (k : Nat) : cutD (ws.map f) none (some (k : Int)) = (ws.take k).map f := by
  show ((ws.map f).drop 0).take (HT.sIx (ws.map f).length (ws.map f).length (some (k : Int)) - 0) = _
  rw [HT.sIx_nat, Nat.sub_zero, List.drop_zero, List.length_map, ← List.map_take]
  by_cases h : k ≤ ws.length
  · rw [Nat.min_eq_left h]
  · rw [Nat.min_eq_right (by omega), List.take_of_length_le (Nat.le_refl _), List.take_of_length_le (by omega)]
theorem cutD_from {α : Type} (f : α → D) (ws : List α) (k : Nat) : cutD (ws.map f) (some (k : Int)) none = (ws.drop k).map f := by
  show ((ws.map f).drop (HT.sIx (ws.map f).length 0 (some (k : Int)))).take ((ws.map f).length - HT.sIx (ws.map f).length 0 (some (k : Int))) = _
  rw [HT.sIx_nat, List.length_map, ← List.map_drop, ← List.map_take]
  by_cases h : k ≤ ws.length
  · rw [Nat.min_eq_left h, List.take_of_length_le (by rw [List.length_drop]; exact Nat.le_refl _)]
  · rw [Nat.min_eq_right (by omega), List.drop_eq_nil_of_le (Nat.le_refl _), List.drop_eq_nil_of_le (by omega), List.take_nil]
theorem cutL_to {xs ys : List Str} {m : Str} : cutD ((xs ++ [m] ++ ys).map D.str) none (some (xs.length : Int)) = xs.map D.str := by
  rw [cutD_to, List.append_assoc, List.take_left]
theorem cutL_from {xs ys : List Str} {m : Str} : cutD ((xs ++ [m] ++ ys).map D.str) (some ((xs.length : Int) + 1)) none = ys.map D.str := by
  rw [show ((xs.length : Int) + 1) = ((xs.length + 1 : Nat) : Int) from rfl, cutD_from, show xs.length + 1 = (xs ++ [m]).length by simp, List.drop_left]
def sgD (s : List Str) : D := .lst (s.map D.str)
/-- at most fourteen words, each of at most eight signs -/
theorem wr_asc : ∀ {us : UT} {r : Int}, UtOk us r → ∀ y ∈ wrW us r, Asc 8 y
  | [], r, h, y, hy => by
    unfold wrW at hy
    split at hy
    · simp only [List.mem_cons, List.not_mem_nil, or_false] at hy
      have := h.r
      rcases hy with rfl | rfl
      · exact Asc.lit (by decide +kernel)
      · exact Asc.num this.1 (by decide) (by omega)
    · cases hy
  | (u, t) :: us, r, h, y, hy => by
    have hy : y ∈ (if 0 < t then [nS t, u.1] else []) ++ wrW us r := hy
    rcases List.mem_append.mp hy with hy | hy
    · split at hy
      · simp only [List.mem_cons, List.not_mem_nil, or_false] at hy
        have := h.t _ List.mem_cons_self
        dsimp only at this
        rcases hy with rfl | rfl
        · exact Asc.num this.1 (by decide) (by omega)
        · exact (h.u _ List.mem_cons_self).asc
      · cases hy
    · exact wr_asc h.tail y hy
theorem Lt.b {us : List (Str × Int)} {o : Option Int} {ws : List Str} (h : Lt us o ws) (g : Ug us) : ws.length ≤ 12 ∧ ∀ y ∈ ws, Asc 8 y := by
  cases h with
  | any => exact ⟨by decide, fun y hy => by rw [List.mem_singleton.mp hy]; exact Asc.lit (by decide +kernel)⟩
  | zero => exact ⟨by decide, fun y hy => by rw [List.mem_singleton.mp hy]; exact Asc.lit (by decide +kernel)⟩
  | @size uts r e ok l ne =>
    have := wr_len uts r
    have e2 : uts.length = us.length := by rw [← e, List.length_map]
    have := g.l.2
    exact ⟨by omega, wr_asc ok⟩
def p_size_of75 (CM : Addr) : Pt := fun ds S G _ => ∃ ws nm us i, ds = [sgD ws, msD CM nm us] ∧ Ug us ∧ Lt us (some i) ws ∧ G (.int i) S
local macro_rules | `(tactic| walk_at "g1") => `(tactic| refine ve_bmV (r := rIndex _) ?_)
section
variable {P : Program} {w : World} {K : PySem.W.Frag} {mg : Str → Option Value} {base : Heap}
theorem ok_parted {f : Addr} {fd : FuncData} {C_Measure C_Sides C_Parcel C_Heap C_NoNumber C_NoSize C_NoMeasure C_NoSide C_NoOrder C_NoSides : Addr}
    (F : Fd K "parted" "parted" s_parted [] f fd) (T : Tx K mg) (hsys : SysOk base) :
    FnG P w K mg base (L2.CX P w) 1 f fd a_parted (spOf K p_parted75) := by
  refine VS.unbox ?_
  simp (disch := with_unfolding_all
    refine fn_val F sc_parted (fun ds S G Y h => ?_) (fun cdv A hgd outer s H E hr px tk po ds S G Y h => ?_)
    · obtain ⟨ss, ms, last, rfl, _⟩ := h
      rfl
    · obtain ⟨ss, ms, last, rfl, hl, h8, h1000, hno, q⟩ := h
      refine ⟨_, (pss_cons (ps_set (i := 2) sc_parted.nd rfl (Or.inl rfl) (pe_lst pa_nil))
        (pss_cons (ps_set (i := 3) sc_parted.nd rfl (Or.inl rfl) (pv 0))
        (pss_cons (ps_for po rfl (pi_tup (pv 1)) (pg_name (i := 4) sc_parted.nd rfl (Or.inl rfl))
        (pss_cons (ps_if (pt_cmpR op_notIn_seq (pv 4) (pv 3) (by rfl)) (pss_one (ps_ret pe_non))
        pss_nil)
        (pss_cons (ps_set (i := 5) sc_parted.nd rfl (Or.inl rfl) (pe_bm PySem.F.plainAttrs_list PySem.F.slot_list_index PySem.F.type_list_index mt_index (pv 3) (pa_cons (pv 4) pa_nil)))
        (pss_cons (ps_expr (pe_bm PySem.F.plainAttrs_list PySem.F.slot_list_append PySem.F.type_list_append mt_append (pv 2) (pa_cons (pe_slice sl_list (pv 3) po_none (po_some (pv 5))) pa_nil)))
        (pss_one (ps_set (i := 3) sc_parted.nd rfl (Or.inl rfl) (pe_slice sl_list (pv 3) (po_some (pe_op op_add (pv 5) pe_int)) po_none)))))))
        (pss_one (ps_ret (pe_op op_cat (pv 2) (pe_lst (pa_cons (pv 3) pa_nil)))))))), ?_⟩
      (try dsimp only [cxOf, List.map])
      show VX _ _ [_, _, _, _, _, _] _ _
      have sz := szl
      walk_at "gr"
      refine ve_lstc ?_
      walk_at "gr"
      intro l hl0
      walk_at "gr"
      refine vx_for (vi_tup ?_)
      walk_at "gr"
      refine ⟨_, rfl, fun i ρ2 S2 => S2 = put S l (.lst ((ss.take i).map sgD)) ∧ ∃ x4 x5, ρ2 = [some (.lst ((glue ss ms last).map D.str)), some (.tup (ms.map D.str)), some (.ref l), some (.lst ((glue (ss.drop i) (ms.drop i) last).map D.str)), x4, x5], ⟨rfl, _, _, rfl⟩, ?_, ?_⟩
      · rintro i d ρ2 S2 hd ⟨rfl, x4, x5, rfl⟩
        rw [List.getElem?_map] at hd
        obtain ⟨m, hm, rfl⟩ := Option.map_eq_some_iff.mp hd
        have hi : i < ms.length := (List.getElem?_eq_some_iff.mp hm).1
        obtain ⟨s, hs⟩ : ∃ s, ss[i]? = some s := ⟨ss[i], List.getElem?_eq_getElem (by omega)⟩
        have gd := glue_drop (last := last) hl hs hm
        have ns := hno s (List.mem_of_getElem? hs) m (List.mem_of_getElem? hm)
        have gn := glue_len (ss := ss) (ms := ms) (last := last) i
        rw [gd] at gn ⊢
        generalize er : glue (ss.drop (i + 1)) (ms.drop (i + 1)) last = r at gn ⊢
        have gn2 : (s ++ [m] ++ r).length ≤ 1000 := by omega
        have hj : ((s ++ [m] ++ r).map D.str)[s.length]? = some (.str m) := by
          rw [List.append_assoc, List.getElem?_map, List.getElem?_append_right (Nat.le_refl _), Nat.sub_self]
          rfl
        walk_at "gr"
        refine rv_in (.l .v) rfl (flat_strs _) ?_
        rw [if_pos rfl, inD_strs, decide_eq_true (show m ∈ s ++ [m] ++ r by simp)]
        walk_at "gr"
        refine ⟨_, .v, ?_⟩
        walk_at "gr"
        refine rm_indexV (j := s.length) .v rfl (flat_strs _) hj (by show (m == m) = true; exact beq_self_eq_true _) (fun j z' hj2 hz' => ?_) ?_
        · rw [List.getElem?_map, List.append_assoc, List.getElem?_append_left hj2] at hz'
          obtain ⟨y, hy, rfl⟩ := Option.map_eq_some_iff.mp hz'
          show (y == m) = false
          rw [beq_eq_false_iff_ne]
          exact fun e => ns (by rw [← e]; exact List.mem_of_getElem? hy)
        walk_at "gr"
        refine rs_list .v ?_
        rw [cutL_to]
        walk_at "gr"
        refine rm_append put_same (by rw [List.length_map, List.length_take]; omega) ?_
        walk_at "gr"
        refine rs_list .v ?_
        rw [cutL_from]
        walk_at "gr"
        rw [put_put]
        exact ⟨by rw [List.take_succ, hs, List.map_append] <;> rfl, _, _, by rw [er] <;> rfl⟩
      · rintro ρ2 S2 ⟨rfl, x4, x5, rfl⟩
        rw [List.length_map, glue_end hl]
        refine vx_freeze 2 rfl put_same ?_
        rw [del_put hl0]
        walk_at "gr"
        refine ve_lst ?_
        walk_at "gr"
        refine rv_cat .v .v (by rw [List.length_map, List.length_take]; show _ + 1 ≤ sizeLine; omega) ?_
        have e : (ss.take ms.length).map sgD ++ [.lst (last.map D.str)] = (ss ++ [last]).map fun s => .lst (s.map D.str) := by
          rw [← hl, List.take_length, List.map_append]
          rfl
        rw [e]
        exact q) only [↓VS.box]
theorem ok_size_of {f : Addr} {fd : FuncData} {C_Measure C_Sides C_Parcel C_Heap C_NoNumber C_NoSize C_NoMeasure C_NoSide C_NoOrder C_NoSides : Addr} {f_Measure_points : Addr} {g_Measure_points : FuncData}
    (F : Fd K "size_of" "size_of" s_size_of [] f fd) (T : Tx K mg) (hsys : SysOk base)
    (c_Measure_points : Mf P w K mg base 4 C_Measure "points" "Measure.points" s_Measure_points [] a_Measure_points (p_Ms_points K C_Measure C_NoSize) f_Measure_points g_Measure_points)
    (x_NoSize : Xc P w K mg base "NoSize" C_NoSize "found")
    (k_Measure : Kl_Measure K mg C_Measure) :
    FnG P w K mg base (L2.CX P w) 5 f fd a_size_of (spOf K (p_size_of75 C_Measure)) := by
  refine VS.unbox ?_
  simp (disch := with_unfolding_all
    have kc_Measure := k_Measure.ins.cl
    have ka_Measure_called := k_Measure.a_called
    have ka_Measure_parts := k_Measure.a_parts
    have e_NoSize_NoSize := T.e_NoSize_NoSize _ _ x_NoSize.at_ x_NoSize.at_
    refine fn_val F sc_size_of (fun ds S G Y h => ?_) (fun cdv A hgd outer s H E hr px tk po ds S G Y h => ?_)
    · obtain ⟨ws, nm, us, i, rfl, _⟩ := h
      rfl
    · obtain ⟨ws, nm, us, i, rfl, g, hw, q⟩ := h
      refine ⟨_, (pss_one (ps_tryD rfl rfl sc_size_of.nd (fun W pn xe tk po => have px := passS_of tk; (pss_one (ps_ret (pe_mG (pv 1) c_Measure_points.cl c_Measure_points.me c_Measure_points.fn hgd (hr.mono (by decide)) c_Measure_points.b .nil px (pa_cons (pe_m1 PySem.F.slot_str_join PySem.F.type_str_join (VS.kMt (K := K) (r := rJoin) m_join) pe_str (pv 0)) pa_nil))))) (.plain ⟨by rfl, by decide, .inl x_NoSize.at_⟩ (fun a oe cls d pn hz hf => (pss_one (ps_ret pe_non))) .rest))), ?_⟩
      (try dsimp only [cxOf, List.map])
      show VX _ _ [_, _] _ _
      obtain ⟨wl, wa⟩ := hw.b g
      have l1 : (Str.ofString " ").length = 1 := by decide
      have za : Asc 108 (Txt.join (Str.ofString " ") ws) := Asc.join (n := 12) (m := 8) (k := 1) (Asc.lit (by decide +kernel)) wa wl
      have hr := hw.read
      walk_at "gr"
      refine rm_join (.l .v) ?_ ?_
      · have := sum_le fun y hy => (wa y hy).1
        rw [l1]
        omega
      walk_at "gr"
      exact ⟨nm, us, _, some (ltS ws), rfl, g, .s (za.mono (by decide)), fun e => (by rw [show ptO us (some (ltS ws)) = some i from hr] at e; cases e), fun k e => (by rw [show ptO us (some (ltS ws)) = some i from hr] at e; cases e; walk_at "gr"; exact q)⟩) only [↓VS.box]
end
end LW
namespace LW
open PySem L2 C8 PySem.Spec PyProof.Rows VS
/-! ### a heap read -/
def marksH : List Str := ["x", "x", "wall", "weight"]
theorem marksH_kept : ∀ m ∈ marksH, m ∈ kepts := by decide +kernel
theorem wr_nomarkH : ∀ {us : UT} {r : Int}, UtOk us r → ∀ y ∈ wrW us r, y ∉ marksH
  | [], r, h, y, hy => by
    unfold wrW at hy
    split at hy
    · simp only [List.mem_cons, List.not_mem_nil, or_false] at hy
      rcases hy with rfl | rfl
      · decide +kernel
      · exact fun z => nS_nk h.r.1 (marksH_kept _ z)
    · cases hy
  | (u, t) :: us, r, h, y, hy => by
    have hy : y ∈ (if 0 < t then [nS t, u.1] else []) ++ wrW us r := hy
    rcases List.mem_append.mp hy with hy | hy
    · split at hy
      · simp only [List.mem_cons, List.not_mem_nil, or_false] at hy
        rcases hy with rfl | rfl
        · exact fun z => nS_nk (h.t _ List.mem_cons_self).1 (marksH_kept _ z)
        · exact fun z => (h.u _ List.mem_cons_self).k (marksH_kept _ z)
      · cases hy
    · exact wr_nomarkH h.tail y hy
theorem Lt.nomarkH {us : List (Str × Int)} {o : Option Int} {ws : List Str} (h : Lt us o ws) : ∀ y ∈ ws, y ∉ marksH := by
  cases h with
  | any => intro y hy; rw [List.mem_singleton.mp hy]; decide +kernel
  | zero => intro y hy; rw [List.mem_singleton.mp hy]; decide +kernel
  | size e ok l ne => exact wr_nomarkH ok
/-- a parcel, and the words of its row -/
structure Ht where
  of ::
  p : Pc
  A : List Str
  B : List Str
  C : List Str
  W : List Str
  ls : List Str
structure Htg (us : List (Str × Int)) (t : Ht) : Prop where
  g : t.p.g
  a : Lt us (some t.p.a) t.A
  b : Lt us (some t.p.b) t.B
  c : Lt us (some t.p.c) t.C
  w : Lt us (some t.p.wl) t.W
  m : Mk t.ls
  e : t.p.mk = mksOf t.ls
/-- the words behind `weight` -/
def bkW (t : Ht) : List Str := nS t.p.wt :: "bears" :: nS t.p.br :: lbW t.ls
def htW (t : Ht) : List Str := t.p.nm :: glue [t.A, t.B, t.C, t.W] marksH (bkW t)
def htS (t : Ht) : Str := Txt.join " " (htW t)
/-- what a row tells -/
def toD (t : Ht) : D := .tup [.str t.p.nm, .tup [.int t.p.a, .int t.p.b, .int t.p.c], .int t.p.wl, .int t.p.wt, .int t.p.br, .lst (t.ls.map D.str)]
theorem evs_lb : ∀ ls : List Str, evs (lbW ls) = ls.map fun _ => ("label" : Str)
  | [] => rfl
  | m :: ls => by
    show ("label" : Str) :: evs (lbW ls) = _
    rw [evs_lb ls]
    rfl
theorem evs_lb1 : ∀ ls : List Str, evs ((lbW ls).drop 1) = ls
  | [] => rfl
  | [m] => rfl
  | m :: n :: ls => by
    show m :: evs ((lbW (n :: ls)).drop 1) = _
    rw [evs_lb1 (n :: ls)]
theorem mk_wd {ls : List Str} (h : Mk ls) : ∀ m ∈ ls, Wdy m ∧ Asc 8 m ∧ nmB m = true := fun m hm => by
  have key : ∀ m ∈ labs, (m.cps.toList ≠ [] ∧ ∀ c ∈ m.cps.toList, 48 ≤ c ∧ c ≤ 122) ∧ (m.length ≤ 8 ∧ ∀ c ∈ m.cps.toList, c < 128) ∧ nmB m = true := by decide +kernel
  exact key m (h.e m hm)
theorem nm_wd {z : Str} (h : nmB z = true) : Wdy z := by
  unfold nmB at h
  rw [Bool.and_eq_true, Bool.and_eq_true] at h
  refine ⟨fun e => ?_, fun c hc => ?_⟩
  · have := of_decide_eq_true h.1.1
    have e2 : z.length = 0 := by show z.cps.size = 0; rw [← Array.length_toList, e]; rfl
    omega
  · have := lcN_iff.mp (List.all_eq_true.mp h.2 c hc)
    omega
theorem nS_wd {i : Int} (h : 0 ≤ i) : Wdy (nS i) := by
  obtain ⟨a, b⟩ := nS_digits h
  exact ⟨a, fun c hc => by have := b c hc; omega⟩
theorem ht_wd {us : List (Str × Int)} {t : Ht} (h : Htg us t) (g : Ug us) : (htW t).length ≤ 62 ∧ ∀ y ∈ htW t, Wdy y ∧ Asc 8 y := by
  obtain ⟨la, wa⟩ := h.a.b g
  obtain ⟨lb, wb⟩ := h.b.b g
  obtain ⟨lc, wc⟩ := h.c.b g
  obtain ⟨lw, ww⟩ := h.w.b g
  have da := h.a.wd
  have db := h.b.wd
  have dc := h.c.wd
  have dw := h.w.wd
  have wt := h.g.wt
  have br := h.g.br
  have ll := h.m.l
  have lit : ∀ y ∈ [("x" : Str), "wall", "weight", "bears", "label"], Wdy y ∧ Asc 8 y := by
    intro y hy
    simp only [List.mem_cons, List.not_mem_nil, or_false] at hy
    rcases hy with rfl | rfl | rfl | rfl | rfl <;> exact ⟨⟨by decide +kernel, by decide +kernel⟩, Asc.lit (by decide +kernel)⟩
  unfold htW bkW marksH
  simp only [glue]
  refine ⟨by simp only [List.length_append, List.length_cons, List.length_nil, lbW_len]; omega, fun y hy => ?_⟩
  simp only [List.mem_append, List.mem_cons, List.not_mem_nil, or_false] at hy
  rcases hy with hy | ((hy | hy) | ((hy | hy) | ((hy | hy) | ((hy | hy) | (hy | hy | hy | hy)))))
  · rw [hy]; exact ⟨nm_wd h.g.gn, h.g.asc⟩
  · exact ⟨da y hy, wa y hy⟩
  · exact lit y (by rw [hy]; simp)
  · exact ⟨db y hy, wb y hy⟩
  · exact lit y (by rw [hy]; simp)
  · exact ⟨dc y hy, wc y hy⟩
  · exact lit y (by rw [hy]; simp)
  · exact ⟨dw y hy, ww y hy⟩
  · exact lit y (by rw [hy]; simp)
  · rw [hy]; exact ⟨nS_wd wt.1, nS_asc wt.1 (by omega)⟩
  · exact lit y (by rw [hy]; simp)
  · rw [hy]; exact ⟨nS_wd br.1, nS_asc br.1 (by omega)⟩
  · rcases lbW_mem hy with rfl | hy
    · exact lit _ (by simp)
    · have := mk_wd h.m y hy
      exact ⟨this.1, this.2.1⟩
theorem ht_asc {us : List (Str × Int)} {t : Ht} (h : Htg us t) (g : Ug us) : Asc 558 (htS t) := by
  obtain ⟨a, b⟩ := ht_wd h g
  exact Asc.join (n := 62) (m := 8) (k := 1) (Asc.lit (by decide +kernel)) (fun y hy => (b y hy).2) a
theorem ht_words {us : List (Str × Int)} {t : Ht} (h : Htg us t) (g : Ug us) : wdO (htS t) = some (htW t) := by
  obtain ⟨_, b⟩ := ht_wd h g
  refine wdO_join (by unfold htW; simp) fun y hy => ?_
  obtain ⟨⟨a, c⟩, _⟩ := b y hy
  refine ⟨fun z => a (by rw [z]; decide +kernel), fun z => ?_, fun z => ?_⟩
  · have := c 32 z; omega
  · have := c 10 z; omega
def stz : D → Str
  | .str z => z
  | _ => Str.empty
def szD (us : List (Str × Int)) : D → D
  | .lst ds => oI (ptS us (ltS (ds.map stz)))
  | _ => .non
theorem szD_lt {us : List (Str × Int)} {i : Int} {ws : List Str} (h : Lt us (some i) ws) : szD us (sgD ws) = .int i := by
  show oI (ptS us (ltS ((ws.map D.str).map stz))) = _
  rw [List.map_map, show (stz ∘ D.str) = id from rfl, List.map_id, h.read]
  rfl
def p_front_of (CM : Addr) : Pt := fun ds S G _ => ∃ (t : Ht) (nm : Str) (us : List (Str × Int)), ds = [.lst ((htW t).map D.str), msD CM nm us] ∧ Ug us ∧ Htg us t ∧ G (.tup [.str t.p.nm, .tup [.int t.p.a, .int t.p.b, .int t.p.c], .int t.p.wl, .lst ((bkW t).map D.str)]) S
def p_back_of : Pt := fun ds S G _ => ∃ (t : Ht) (us : List (Str × Int)), ds = [.lst ((bkW t).map D.str)] ∧ Htg us t ∧ G (.tup [.int t.p.wt, .int t.p.br, .lst (t.ls.map D.str)]) S
def p_parcel_told (CM : Addr) : Pt := fun ds S G _ => ∃ (t : Ht) (nm : Str) (us : List (Str × Int)), ds = [.str (htS t), msD CM nm us] ∧ Ug us ∧ Htg us t ∧ G (toD t) S
def p_parcel_of (CP CS : Addr) : Pt := fun ds S G _ => ∃ (t : Ht) (us : List (Str × Int)), ds = [toD t] ∧ Htg us t ∧ G (t.p.d CP CS) S
theorem to_ok {us : List (Str × Int)} {t : Ht} (h : Htg us t) : Ok (toD t) 180015 5 := by
  refine (Ok.tup 6 (n := 30000) (k := 4) (fun y hy => ?_) (Nat.le_refl _) (by decide) (by decide)).mono (by decide) (by decide)
  have wl := h.g.wl
  have wt := h.g.wt
  have br := h.g.br
  have i3 : ∀ {i : Int}, In1 i → Ok (.int i) 200 2 := fun hi => ok_int (by have := hi.1; have := hi.2; omega)
  simp only [List.mem_cons, List.not_mem_nil, or_false] at hy
  rcases hy with rfl | rfl | rfl | rfl | rfl | rfl
  · exact (ok_str h.g.asc (by decide)).mono (by decide) (by decide)
  · exact (Ok.tup 3 (n := 200) (k := 2) (fun z hz => by
      simp only [List.mem_cons, List.not_mem_nil, or_false] at hz
      rcases hz with rfl | rfl | rfl
      · exact i3 h.g.a
      · exact i3 h.g.b
      · exact i3 h.g.c) (Nat.le_refl _) (by decide) (by decide)).mono (by decide) (by decide)
  · exact (ok_int (by omega)).mono (by decide) (by decide)
  · exact (ok_int (by omega)).mono (by decide) (by decide)
  · exact (ok_int (by omega)).mono (by decide) (by decide)
  · exact ok_strs (fun z hz => (mk_wd h.m z hz).2.1.mono (by decide)) (by have := h.m.l; omega)
theorem tos_ok {us : List (Str × Int)} {ts : List Ht} (h : ∀ t ∈ ts, Htg us t) (l : ts.length ≤ 12) : Ok (.lst (ts.map toD)) 2160206 6 :=
  (Ok.lst 12 (n := 180015) (k := 5) (fun y hy => by
    obtain ⟨t, ht, rfl⟩ := List.mem_map.mp hy
    exact to_ok (h t ht)) (by rw [List.length_map]; exact l) (by decide)).mono (by decide) (by decide)
theorem tos_nn : ∀ ts : List Ht, ((pdL (ts.map toD)).any fun z => PyData.eqv z (pd .non)) = false
  | [] => rfl
  | t :: ts => by
    show (PyData.eqv (pd (toD t)) (pd .non) || (pdL (ts.map toD)).any fun z => PyData.eqv z (pd .non)) = false
    rw [tos_nn ts]
    rfl
theorem ht_nl {us : List (Str × Int)} {t : Ht} (h : Htg us t) (g : Ug us) : 10 ∉ (htS t).cps.toList := by
  have e := ht_words h g
  unfold wdO at e
  split at e
  · cases e
  · rename_i k
    exact fun z => k (.inl z)
theorem ht_ne {us : List (Str × Int)} {t : Ht} (h : Htg us t) (g : Ug us) : htS t ≠ Str.empty := fun z => by
  have e := ht_words h g
  rw [z, show wdO Str.empty = none by decide +kernel] at e
  cases e
/-- what a heap's text is made of -/
structure Hts (us : List (Str × Int)) (ts : List Ht) : Prop where
  g : ∀ t ∈ ts, Htg us t
  l : ts.length ≤ 12
  n : ((ts.map Ht.p).map Pc.nm).Nodup
def hxS (ts : List Ht) : Str := Txt.join "\n" (ts.map htS)
def p_read_heap (CM CH CP CS : Addr) : Pt := fun ds S G _ => ∃ (ts : List Ht) (nm : Str) (us : List (Str × Int)), ds = [.str (hxS ts), msD CM nm us] ∧ Ug us ∧ Hts us ts ∧
  ∀ h l S', S h = none → S l = none → Ext S S' → HpS S' CH CP CS h l (ts.map Ht.p) → G (.ref h) S'
def p_heap_retold (CM CH CP CS : Addr) : Pt := fun ds S G _ => ∃ (ts : List Ht) (nm nm' : Str) (us us' : List (Str × Int)), ds = [.str (hxS ts), msD CM nm us, msD CM nm' us'] ∧ Ug us ∧ Ug us' ∧ Hts us ts ∧ ∀ S', Ext S S' → G (.str (hpS us' (ts.map Ht.p))) S'
section
variable {P : Program} {w : World} {K : PySem.W.Frag} {mg : Str → Option Value} {base : Heap}
theorem ok_front_of {f : Addr} {fd : FuncData} {C_Measure C_Sides C_Parcel C_Heap C_NoNumber C_NoSize C_NoMeasure C_NoSide C_NoOrder C_NoSides : Addr} {f_is_name f_parted f_size_of : Addr} {g_is_name g_parted g_size_of : FuncData}
    (F : Fd K "front_of" "front_of" s_front_of [] f fd) (T : Tx K mg) (hsys : SysOk base)
    (c_is_name : Cf P w K mg base (L2.CX P w) 1 "is_name" s_is_name [] a_is_name (p_is_name K) f_is_name g_is_name)
    (c_parted : Cf P w K mg base (L2.CX P w) 1 "parted" s_parted [] a_parted p_parted75 f_parted g_parted)
    (c_size_of : Cf P w K mg base (L2.CX P w) 5 "size_of" s_size_of [] a_size_of (p_size_of75 C_Measure) f_size_of g_size_of)
    (k_Measure : Kl_Measure K mg C_Measure) :
    FnG P w K mg base (L2.CX P w) 6 f fd a_front_of (spOf K (p_front_of C_Measure)) := by
  refine VS.unbox ?_
  simp (disch := with_unfolding_all
    have kc_Measure := k_Measure.ins.cl
    have ka_Measure_called := k_Measure.a_called
    have ka_Measure_parts := k_Measure.a_parts
    refine fn_val F sc_front_of (fun ds S G Y h => ?_) (fun cdv A hgd outer s H E hr px tk po ds S G Y h => ?_)
    · obtain ⟨t, nm, us, rfl, _⟩ := h
      rfl
    · obtain ⟨t, nm, us, rfl, g, ht, q⟩ := h
      obtain ⟨aR, hR, rR⟩ := T.c_MARKS
      refine ⟨_, (pss_cons (ps_if (PW.pt (pw_or (pt_cmpR op_eq (pe_callB c_len (by rfl) T.b_len (by decide +kernel) (pa_cons (pv 0) pa_nil)) pe_int (nomark _)) (pw_or1 (pt_not (pt_val (pe_cG c_is_name.fn hgd (hr.mono (by decide)) (by rfl) c_is_name.mg c_is_name.kp c_is_name.b .nil VS.pass0 (pa_cons (pe_ix ix_list (pv 0) pe_int (fun _ _ => rfl)) pa_nil))))))) (pss_one (ps_ret pe_non))
        pss_nil)
        (pss_cons (ps_set (i := 2) sc_front_of.nd rfl (Or.inl rfl) (pe_cG c_parted.fn hgd (hr.mono (by decide)) (by rfl) c_parted.mg c_parted.kp c_parted.b .nil VS.pass0 (pa_cons (pe_slice sl_list (pv 0) (po_some pe_int) po_none) (pa_cons (pe_kd (by rfl) hR) pa_nil))))
        (pss_cons (ps_if (pt_cmpR op_isNo (pv 2) pe_non (nomark _)) (pss_one (ps_ret pe_non))
        pss_nil)
        (pss_cons (ps_setLc (i := 3) (own := [("part", 4)]) rfl sc_front_of.nd rfl rfl (sw_true rfl rfl rfl (by decide +kernel)) (pi_list (pe_slice sl_list (pv 2) po_none (po_some pe_int))) (blkOk_by (own := [("part", 4)]) (N := n_front_of) (sc := defScope s_front_of) (by decide +kernel)) (fun _ _ _ _ _ => (pg_name (i := 4) sc_front_of.nd rfl (Or.inl rfl))) (fun _ _ _ _ _ => pts_nil) (fun _ _ _ _ _ => (pe_cG c_size_of.fn hgd (hr.mono (by decide)) (by rfl) c_size_of.mg c_size_of.kp c_size_of.b .nil VS.pass0 (pa_cons (pv 4) (pa_cons (pv 1) pa_nil)))))
        (pss_cons (ps_if (pt_cmpR op_in_seq pe_non (pv 3) (by rfl)) (pss_one (ps_ret pe_non))
        pss_nil)
        (pss_one (ps_ret (pe_tup (pa_cons (pe_ix ix_list (pv 0) pe_int (fun _ _ => rfl)) (pa_cons (pe_callTy c_tuple (by rfl) T.b_tuple (by decide +kernel) (pa_cons (pe_slice sl_list (pv 3) po_none (po_some pe_int)) pa_nil)) (pa_cons (pe_ix ix_list (pv 3) pe_int (fun _ _ => rfl)) (pa_cons (pe_ix ix_list (pv 2) pe_int (fun _ _ => rfl)) pa_nil)))))))))))), ?_⟩
      (try dsimp only [cxOf, List.map])
      show VX _ _ [_, _, _, _, _] _ _
      have sz := szl
      obtain ⟨wl, wa⟩ := ht_wd ht g
      have l8 := ht.g.ln
      have wl2 : (glue [t.A, t.B, t.C, t.W] marksH (bkW t)).length + 1 ≤ 62 := wl
      unfold htW
      walk_at "gr"
      refine rv_ixL .v (i := 0) (d := .str t.p.nm) (atI_nat (j := 0) rfl) ?_
      walk_at "gr"
      refine ⟨_, rfl, .inl ⟨_, rfl, by omega, ?_⟩⟩
      rw [ht.g.gn]
      walk_at "gr"
      refine rs_list .v ?_
      rw [show cutD ((t.p.nm :: glue [t.A, t.B, t.C, t.W] marksH (bkW t)).map D.str) (some 1) none = (glue [t.A, t.B, t.C, t.W] marksH (bkW t)).map D.str from cutD_from D.str (t.p.nm :: glue [t.A, t.B, t.C, t.W] marksH (bkW t)) 1]
      walk_at "gr"
      refine ⟨[t.A, t.B, t.C, t.W], marksH, bkW t, rfl, rfl, by decide, by omega, fun s hs m hm => ?_, ?_⟩
      · simp only [List.mem_cons, List.not_mem_nil, or_false] at hs
        rcases hs with rfl | rfl | rfl | rfl
        · exact fun z => ht.a.nomarkH m z hm
        · exact fun z => ht.b.nomarkH m z hm
        · exact fun z => ht.c.nomarkH m z hm
        · exact fun z => ht.w.nomarkH m z hm
      show VG _ _ (.lst [sgD t.A, sgD t.B, sgD t.C, sgD t.W, sgD (bkW t)]) _ _ _
      walk_at "gr"
      refine ve_lcM (szD us) (vi_list ?_)
      walk_at "gr"
      refine rs_list .v ?_
      refine ⟨[sgD t.A, sgD t.B, sgD t.C, sgD t.W], .v, by show 4 ≤ 100000; decide, fun d hd => ?_, ?_⟩
      · obtain ⟨ws, i, rfl, hi⟩ : ∃ ws i, d = sgD ws ∧ Lt us (some i) ws := by
          simp only [List.mem_cons, List.not_mem_nil, or_false] at hd
          rcases hd with rfl | rfl | rfl | rfl
          · exact ⟨_, _, rfl, ht.a⟩
          · exact ⟨_, _, rfl, ht.b⟩
          · exact ⟨_, _, rfl, ht.c⟩
          · exact ⟨_, _, rfl, ht.w⟩
        walk_at "gr"
        refine ⟨rfl, ?_⟩
        walk_at "gr"
        exact ⟨ws, nm, us, i, rfl, g, hi, (szD_lt hi).symm, rfl⟩
      rw [show [sgD t.A, sgD t.B, sgD t.C, sgD t.W].map (szD us) = [.int t.p.a, .int t.p.b, .int t.p.c, .int t.p.wl] by simp only [List.map_cons, List.map_nil, szD_lt ht.a, szD_lt ht.b, szD_lt ht.c, szD_lt ht.w]]
      walk_at "gr"
      refine rv_in (.l .v) rfl rfl ?_
      rw [show (if false = true then !inD .non [.int t.p.a, .int t.p.b, .int t.p.c, .int t.p.wl] else inD .non [.int t.p.a, .int t.p.b, .int t.p.c, .int t.p.wl]) = false from rfl]
      walk_at "gr"
      refine rv_ixL .v (i := 0) (d := .str t.p.nm) (atI_nat (j := 0) rfl) ?_
      walk_at "gr"
      refine rs_list .v ?_
      walk_at "gr"
      exact q) only [↓VS.box]
theorem ok_back_of {f : Addr} {fd : FuncData} {C_Measure C_Sides C_Parcel C_Heap C_NoNumber C_NoSize C_NoMeasure C_NoSide C_NoOrder C_NoSides : Addr} {f_number_of f_is_name : Addr} {g_number_of g_is_name : FuncData}
    (F : Fd K "back_of" "back_of" s_back_of [] f fd) (T : Tx K mg) (hsys : SysOk base)
    (c_number_of : Cf P w K mg base (L2.CX P w) 1 "number_of" s_number_of [] a_number_of (p_number_of K) f_number_of g_number_of)
    (c_is_name : Cf P w K mg base (L2.CX P w) 1 "is_name" s_is_name [] a_is_name (p_is_name K) f_is_name g_is_name) :
    FnG P w K mg base (L2.CX P w) 2 f fd a_back_of (spOf K p_back_of) := by
  refine VS.unbox ?_
  simp (disch := with_unfolding_all
    refine fn_val F sc_back_of (fun ds S G Y h => ?_) (fun cdv A hgd outer s H E hr px tk po ds S G Y h => ?_)
    · obtain ⟨t, us, rfl, _⟩ := h
      rfl
    · obtain ⟨t, us, rfl, ht, q⟩ := h
      refine ⟨_, (pss_cons (ps_if (PW.pt (pw_or (pt_cmpR op_lt (pe_callB c_len (by rfl) T.b_len (by decide +kernel) (pa_cons (pv 0) pa_nil)) pe_int (nomark _)) (pw_or (pt_cmpR op_eq (pe_op op_mod (pe_callB c_len (by rfl) T.b_len (by decide +kernel) (pa_cons (pv 0) pa_nil)) pe_int) pe_int (nomark _)) (pw_or1 (pt_cmpR op_ne (pe_ix ix_list (pv 0) pe_int (fun _ _ => rfl)) pe_str (nomark _)))))) (pss_one (ps_ret pe_non))
        pss_nil)
        (pss_cons (ps_par (i := 1) (j := 2) (by rfl) sc_back_of.nd rfl rfl (by decide) rfl rfl (pa_cons (pe_cG c_number_of.fn hgd (hr.mono (by decide)) (by rfl) c_number_of.mg c_number_of.kp c_number_of.b .nil VS.pass0 (pa_cons (pe_ix ix_list (pv 0) pe_int (fun _ _ => rfl)) pa_nil)) (pa_cons (pe_cG c_number_of.fn hgd (hr.mono (by decide)) (by rfl) c_number_of.mg c_number_of.kp c_number_of.b .nil VS.pass0 (pa_cons (pe_ix ix_list (pv 0) pe_int (fun _ _ => rfl)) pa_nil)) pa_nil)) (by rfl))
        (pss_cons (ps_if (PW.pt (pw_or (pt_cmpR op_isNo (pv 1) pe_non (nomark _)) (pw_or1 (pt_cmpR op_isNo (pv 2) pe_non (nomark _))))) (pss_one (ps_ret pe_non))
        pss_nil)
        (pss_cons (ps_set (i := 3) sc_back_of.nd rfl (Or.inl rfl) (pe_evL (pv 0)))
        (pss_cons (ps_if (PW.pt (pw_or (pt_val (pe_callB (cr_any rfl) (by rfl) T.b_any (by decide +kernel) (pa_cons (pe_lc (own := [("word", 4)]) rfl sc_back_of.nd (pi_list (pe_evL (pv 0))) (blkOk_by (own := [("word", 4)]) (N := n_back_of) (sc := defScope s_back_of) (by decide +kernel)) (fun _ _ _ _ _ => (pg_name (i := 4) sc_back_of.nd rfl (Or.inl rfl))) (fun _ _ _ _ _ => pts_nil) (fun _ _ _ _ _ => (pe_cmpR op_ne (pv 4) pe_str (nomark _)))) pa_nil))) (pw_or1 (pt_not (pt_val (pe_callB (cr_all rfl) (by rfl) T.b_all (by decide +kernel) (pa_cons (pe_lc (own := [("label", 5)]) rfl sc_back_of.nd (pi_list (pv 3)) (blkOk_by (own := [("label", 5)]) (N := n_back_of) (sc := defScope s_back_of) (by decide +kernel)) (fun _ _ _ _ _ => (pg_name (i := 5) sc_back_of.nd rfl (Or.inl rfl))) (fun _ _ _ _ _ => pts_nil) (fun _ _ _ _ _ => (pe_cG c_is_name.fn hgd (hr.mono (by decide)) (by rfl) c_is_name.mg c_is_name.kp c_is_name.b .nil VS.pass0 (pa_cons (pv 5) pa_nil)))) pa_nil))))))) (pss_one (ps_ret pe_non))
        pss_nil)
        (pss_one (ps_ret (pe_tup (pa_cons (pv 1) (pa_cons (pv 2) (pa_cons (pv 3) pa_nil))))))))))), ?_⟩
      (try dsimp only [cxOf, List.map])
      show VX _ _ [_, _, _, _, _, _] _ _
      have sz := szl
      have wt := ht.g.wt
      have br := ht.g.br
      have ll := ht.m.l
      have e4 : evs (List.drop 4 (D.str (nS t.p.wt) :: D.str "bears" :: D.str (nS t.p.br) :: (lbW t.ls).map D.str)) = t.ls.map D.str := by
        show evs (List.drop 1 ((lbW t.ls).map D.str)) = _
        rw [← List.map_drop, evs_map, evs_lb1]
      have e3 : evs (List.drop 3 (D.str (nS t.p.wt) :: D.str "bears" :: D.str (nS t.p.br) :: (lbW t.ls).map D.str)) = t.ls.map fun _ => D.str "label" := by
        show evs ((lbW t.ls).map D.str) = _
        rw [evs_map, evs_lb, List.map_map]
        rfl
      have eL : ((lbW t.ls).map D.str).length = 2 * t.ls.length := by rw [List.length_map, lbW_len]
      have q : G (.tup [.int t.p.wt, .int t.p.br, .lst (t.ls.map D.str)]) S := q
      show VX _ _ [some (.lst (D.str (nS t.p.wt) :: D.str "bears" :: D.str (nS t.p.br) :: (lbW t.ls).map D.str)), _, _, _, _, _] _ _
      have nw : numD (nS t.p.wt) = .int t.p.wt := by unfold numD; rw [nS_num ⟨wt.1, by omega⟩]; rfl
      have nb : numD (nS t.p.br) = .int t.p.br := by unfold numD; rw [nS_num ⟨br.1, by omega⟩]; rfl
      have lw : (nS t.p.wt).length ≤ 8 := (nS_asc wt.1 (by omega)).1
      have lb : (nS t.p.br).length ≤ 8 := (nS_asc br.1 (by omega)).1
      generalize (lbW t.ls).map D.str = L at e4 e3 eL ⊢
      walk_at "gr"
      have hodd : ¬ (((D.str (nS t.p.wt) :: D.str "bears" :: D.str (nS t.p.br) :: L).length : Int) % 2 = 0) := by
        show ¬ (((L.length + 3 : Nat) : Int) % 2 = 0)
        omega
      rw [decide_eq_false hodd]
      walk_at "gr"
      refine rv_ixL .v (i := 1) (d := .str "bears") (atI_nat (j := 1) rfl) ?_
      walk_at "gr"
      refine rv_ixL .v (i := 0) (d := .str (nS t.p.wt)) (atI_nat (j := 0) rfl) ?_
      walk_at "gr"
      refine ⟨_, rfl, .inl ⟨_, rfl, by omega, ?_⟩⟩
      rw [nw]
      walk_at "gr"
      refine rv_ixL .v (i := 2) (d := .str (nS t.p.br)) (atI_nat (j := 2) rfl) ?_
      walk_at "gr"
      refine ⟨_, rfl, .inl ⟨_, rfl, by omega, ?_⟩⟩
      rw [nb]
      walk_at "gr"
      refine ve_evL ?_
      walk_at "gr"
      refine ⟨_, .v, ?_⟩
      rw [e4]
      walk_at "gr"
      refine ve_lcM (fun _ => .bl false) (vi_list ?_)
      walk_at "gr"
      refine ve_evL ?_
      walk_at "gr"
      refine ⟨_, .v, ?_⟩
      rw [e3]
      refine ⟨_, .v, by rw [List.length_map]; omega, fun d hd => ?_, ?_⟩
      · obtain ⟨m, hm, rfl⟩ := List.mem_map.mp hd
        walk_at "gr"
        refine ⟨rfl, ?_⟩
        walk_at "gr"
        exact ⟨by rw [decide_eq_true rfl] <;> rfl, rfl⟩
      walk_at "gr"
      refine rc_any (bs := t.ls.map fun _ => false) (by rw [List.map_map, List.map_map]; exact .v) ?_
      have af : (t.ls.map fun _ => false).any id = false := by
        rw [List.any_eq_false]
        intro b hb
        obtain ⟨_, _, rfl⟩ := List.mem_map.mp hb
        exact Bool.false_ne_true
      rw [af]
      walk_at "gr"
      refine ve_lcM (fun _ => .bl true) (vi_list ?_)
      walk_at "gr"
      refine ⟨_, .v, by rw [List.length_map]; omega, fun d hd => ?_, ?_⟩
      · obtain ⟨m, hm, rfl⟩ := List.mem_map.mp hd
        have k := mk_wd ht.m m hm
        have kl := k.2.1.1
        walk_at "gr"
        refine ⟨rfl, ?_⟩
        walk_at "gr"
        refine ⟨_, rfl, .inl ⟨_, rfl, by omega, ?_⟩⟩
        rw [k.2.2]
        exact ⟨rfl, rfl⟩
      walk_at "gr"
      refine rc_all (bs := t.ls.map fun _ => true) (by rw [List.map_map, List.map_map]; exact .v) ?_
      have al : (t.ls.map fun _ => true).all id = true := by
        rw [List.all_eq_true]
        intro b hb
        obtain ⟨_, _, rfl⟩ := List.mem_map.mp hb
        rfl
      rw [al]
      walk_at "gr"
      exact q) only [↓VS.box]
theorem ok_parcel_told {f : Addr} {fd : FuncData} {C_Measure C_Sides C_Parcel C_Heap C_NoNumber C_NoSize C_NoMeasure C_NoSide C_NoOrder C_NoSides : Addr} {f_words_of f_front_of f_back_of : Addr} {g_words_of g_front_of g_back_of : FuncData}
    (F : Fd K "parcel_told" "parcel_told" s_parcel_told [] f fd) (T : Tx K mg) (hsys : SysOk base)
    (c_words_of : Cf P w K mg base (L2.CX P w) 1 "words_of" s_words_of [] a_words_of (p_words_of K) f_words_of g_words_of)
    (c_front_of : Cf P w K mg base (L2.CX P w) 6 "front_of" s_front_of [] a_front_of (p_front_of C_Measure) f_front_of g_front_of)
    (c_back_of : Cf P w K mg base (L2.CX P w) 2 "back_of" s_back_of [] a_back_of p_back_of f_back_of g_back_of)
    (k_Measure : Kl_Measure K mg C_Measure) :
    FnG P w K mg base (L2.CX P w) 7 f fd a_parcel_told (spOf K (p_parcel_told C_Measure)) := by
  refine VS.unbox ?_
  simp (disch := with_unfolding_all
    have kc_Measure := k_Measure.ins.cl
    have ka_Measure_called := k_Measure.a_called
    have ka_Measure_parts := k_Measure.a_parts
    refine fn_val F sc_parcel_told (fun ds S G Y h => ?_) (fun cdv A hgd outer s H E hr px tk po ds S G Y h => ?_)
    · obtain ⟨t, nm, us, rfl, _⟩ := h
      rfl
    · obtain ⟨t, nm, us, rfl, g, ht, q⟩ := h
      refine ⟨_, (pss_cons (ps_set (i := 2) sc_parcel_told.nd rfl (Or.inl rfl) (pe_cG c_words_of.fn hgd (hr.mono (by decide)) (by rfl) c_words_of.mg c_words_of.kp c_words_of.b .nil VS.pass0 (pa_cons (pv 0) pa_nil)))
        (pss_cons (ps_if (pt_cmpR op_isNo (pv 2) pe_non (nomark _)) (pss_one (ps_ret pe_non))
        pss_nil)
        (pss_cons (ps_set (i := 3) sc_parcel_told.nd rfl (Or.inl rfl) (pe_cG c_front_of.fn hgd (hr.mono (by decide)) (by rfl) c_front_of.mg c_front_of.kp c_front_of.b .nil VS.pass0 (pa_cons (pv 2) (pa_cons (pv 1) pa_nil))))
        (pss_cons (ps_if (pt_cmpR op_isNo (pv 3) pe_non (nomark _)) (pss_one (ps_ret pe_non))
        pss_nil)
        (pss_cons (ps_set (i := 4) sc_parcel_told.nd rfl (Or.inl rfl) (pe_cG c_back_of.fn hgd (hr.mono (by decide)) (by rfl) c_back_of.mg c_back_of.kp c_back_of.b .nil VS.pass0 (pa_cons (pe_ix ix_tup (pv 3) pe_int (fun _ _ => rfl)) pa_nil)))
        (pss_cons (ps_if (pt_cmpR op_isNo (pv 4) pe_non (nomark _)) (pss_one (ps_ret pe_non))
        pss_nil)
        (pss_one (ps_ret (pe_op op_catA (pe_slice sl_tupA (pv 3) po_none (po_some pe_int)) (pv 4)))))))))), ?_⟩
      (try dsimp only [cxOf, List.map])
      show VX _ _ [_, _, _, _, _] _ _
      have sz := szl
      have zl := (ht_asc ht g).1
      walk_at "gr"
      refine ⟨_, rfl, .inl ⟨_, rfl, by omega, ?_⟩⟩
      rw [ht_words ht g]
      show VG _ _ (.lst ((htW t).map D.str)) _ _ _
      walk_at "gr"
      refine ⟨t, nm, us, rfl, g, ht, ?_⟩
      walk_at "gr"
      refine ⟨t, us, rfl, ht, ?_⟩
      walk_at "gr"
      exact rv_catA (xs := [.str t.p.nm, .tup [.int t.p.a, .int t.p.b, .int t.p.c], .int t.p.wl]) (by show 3 + 3 ≤ sizeLine; omega) q) only [↓VS.box]
theorem ok_parcel_of {f : Addr} {fd : FuncData} {C_Measure C_Sides C_Parcel C_Heap C_NoNumber C_NoSize C_NoMeasure C_NoSide C_NoOrder C_NoSides : Addr} {f_Sides f_Parcel : Addr} {g_Sides g_Parcel : FuncData}
    (F : Fd K "parcel_of" "parcel_of" s_parcel_of [] f fd) (T : Tx K mg) (hsys : SysOk base)
    (c_Sides : Kf P w K mg base 3 "Sides" C_Sides "Sides.__init__" s_Sides___init__ [] a_Sides___init__ (p_Sides_init K C_Sides C_NoSide) f_Sides g_Sides)
    (c_Parcel : Kf P w K mg base 3 "Parcel" C_Parcel "Parcel.__init__" s_Parcel___init__ [.int 1, .int 0, .int 0, .non] a_Parcel___init__ (p_Pc_init C_Parcel C_Sides) f_Parcel g_Parcel)
    (k_Sides : Kl_Sides K mg C_Sides)
    (k_Parcel : Kl_Parcel K mg C_Parcel) :
    FnG P w K mg base (L2.CX P w) 5 f fd a_parcel_of (spOf K (p_parcel_of C_Parcel C_Sides)) := by
  refine VS.unbox ?_
  simp (disch := with_unfolding_all
    have kc_Sides := k_Sides.ins.cl
    have ka_Sides_three := k_Sides.a_three
    have kc_Parcel := k_Parcel.ins.cl
    have ka_Parcel_called := k_Parcel.a_called
    have ka_Parcel_outside := k_Parcel.a_outside
    have ka_Parcel_thick := k_Parcel.a_thick
    have ka_Parcel_heavy := k_Parcel.a_heavy
    have ka_Parcel_strong := k_Parcel.a_strong
    have ka_Parcel_marks := k_Parcel.a_marks
    refine fn_val F sc_parcel_of (fun ds S G Y h => ?_) (fun cdv A hgd outer s H E hr px tk po ds S G Y h => ?_)
    · obtain ⟨t, us, rfl, _⟩ := h
      rfl
    · obtain ⟨t, us, rfl, ht, q⟩ := h
      refine ⟨_, (pss_cons (ps_asg (pv 0) (pg_tup (n := 6) rfl (pgs_cons (pg_name (i := 1) sc_parcel_of.nd rfl (Or.inl rfl)) (pgs_cons (pg_tup (n := 3) rfl (pgs_cons (pg_name (i := 2) sc_parcel_of.nd rfl (Or.inl rfl)) (pgs_cons (pg_name (i := 3) sc_parcel_of.nd rfl (Or.inl rfl)) (pgs_cons (pg_name (i := 4) sc_parcel_of.nd rfl (Or.inl rfl)) pgs_nil)))) (pgs_cons (pg_name (i := 5) sc_parcel_of.nd rfl (Or.inl rfl)) (pgs_cons (pg_name (i := 6) sc_parcel_of.nd rfl (Or.inl rfl)) (pgs_cons (pg_name (i := 7) sc_parcel_of.nd rfl (Or.inl rfl)) (pgs_cons (pg_name (i := 8) sc_parcel_of.nd rfl (Or.inl rfl)) pgs_nil))))))))
        (pss_one (ps_ret (pe_kG c_Parcel.mk_ c_Parcel.fn hgd (hr.mono (by decide)) (by rfl) c_Parcel.mg  c_Parcel.b .nil VS.pass0 (pa_cons (pv 1) (pa_cons (pe_kG c_Sides.mk_ c_Sides.fn hgd (hr.mono (by decide)) (by rfl) c_Sides.mg  c_Sides.b .nil VS.pass0 (pa_cons (pv 2) (pa_cons (pv 3) (pa_cons (pv 4) pa_nil)))) (pa_cons (pv 5) (pa_cons (pv 6) (pa_cons (pv 7) (pa_cons (pv 8) pa_nil)))))))))), ?_⟩
      (try dsimp only [cxOf, List.map])
      show VX _ _ [_, _, _, _, _, _, _, _, _] _ _
      have sz := szl
      unfold toD
      walk_at "gr"
      refine ⟨_, _, _, rfl, ht.g.a, ht.g.b, ht.g.c, ?_⟩
      walk_at "gr"
      refine fun y hy => ⟨y, _, _, _, _, _, _, _, t.ls, rfl, put_same, ⟨ht.g.gn, ht.g.ln, ht.g.a, ht.g.b, ht.g.c, ht.g.wl, ht.g.wt, ht.g.br, ht.m⟩, rfl, y, _, rfl, put_same, nofun, ?_⟩
      rw [del_put2 hy, ← ht.e]
      exact q) only [↓VS.box]
theorem ok_read_heap {f : Addr} {fd : FuncData} {C_Measure C_Sides C_Parcel C_Heap C_NoNumber C_NoSize C_NoMeasure C_NoSide C_NoOrder C_NoSides : Addr} {f_need_measure f_Heap f_parcel_told f_Heap_put f_parcel_of : Addr} {g_need_measure g_Heap g_parcel_told g_Heap_put g_parcel_of : FuncData}
    (F : Fd K "read_heap" "read_heap" s_read_heap [] f fd) (T : Tx K mg) (hsys : SysOk base)
    (c_need_measure : Cf P w K mg base (L2.CX P w) 3 "need_measure" s_need_measure [] a_need_measure (p_need_measure K C_Measure C_NoMeasure) f_need_measure g_need_measure)
    (c_Heap : Kf P w K mg base 1 "Heap" C_Heap "Heap.__init__" s_Heap___init__ [] a_Heap___init__ (p_Hp_init C_Heap) f_Heap g_Heap)
    (c_parcel_told : Cf P w K mg base (L2.CX P w) 7 "parcel_told" s_parcel_told [] a_parcel_told (p_parcel_told C_Measure) f_parcel_told g_parcel_told)
    (c_Heap_put : Mf P w K mg base 3 C_Heap "put" "Heap.put" s_Heap_put [.non] a_Heap_put (p_Hp_put C_Heap C_Parcel C_Sides) f_Heap_put g_Heap_put)
    (d_Heap_put2 : Bd K g_Heap_put a_Heap_put [.non])
    (c_parcel_of : Cf P w K mg base (L2.CX P w) 5 "parcel_of" s_parcel_of [] a_parcel_of (p_parcel_of C_Parcel C_Sides) f_parcel_of g_parcel_of)
    (k_Measure : Kl_Measure K mg C_Measure)
    (k_Heap : Kl_Heap K mg C_Heap)
    (k_Parcel : Kl_Parcel K mg C_Parcel)
    (k_Sides : Kl_Sides K mg C_Sides) :
    FnG P w K mg base (L2.CX P w) 8 f fd a_read_heap (spOf K (p_read_heap C_Measure C_Heap C_Parcel C_Sides)) := by
  refine VS.unbox ?_
  simp (disch := with_unfolding_all
    have kc_Measure := k_Measure.ins.cl
    have ka_Measure_called := k_Measure.a_called
    have ka_Measure_parts := k_Measure.a_parts
    have kc_Heap := k_Heap.ins.cl
    have ka_Heap_held := k_Heap.a_held
    have kc_Parcel := k_Parcel.ins.cl
    have ka_Parcel_called := k_Parcel.a_called
    have ka_Parcel_outside := k_Parcel.a_outside
    have ka_Parcel_thick := k_Parcel.a_thick
    have ka_Parcel_heavy := k_Parcel.a_heavy
    have ka_Parcel_strong := k_Parcel.a_strong
    have ka_Parcel_marks := k_Parcel.a_marks
    have kc_Sides := k_Sides.ins.cl
    have ka_Sides_three := k_Sides.a_three
    refine fn_val F sc_read_heap (fun ds S G Y h => ?_) (fun cdv A hgd outer s H E hr px tk po ds S G Y h => ?_)
    · obtain ⟨ts, nm, us, rfl, _⟩ := h
      rfl
    · obtain ⟨ts, nm, us, rfl, g, gt, q⟩ := h
      refine ⟨_, (pss_cons (ps_if (pt_not (pt_val (pe_callB c_isiZ (by rfl) T.b_isinstance (by decide +kernel) (pa_cons (pv 0) (pa_cons (pe_bltn (v := .ty "str") (by rfl) T.b_str (by decide +kernel) rfl) pa_nil))))) (pss_one ps_nev)
        pss_nil)
        (pss_cons (ps_expr (pe_cG c_need_measure.fn hgd (hr.mono (by decide)) (by rfl) c_need_measure.mg c_need_measure.kp c_need_measure.b .nil VS.pass0 (pa_cons (pv 1) pa_nil)))
        (pss_cons (ps_set (i := 2) sc_read_heap.nd rfl (Or.inl rfl) (pe_kG0 c_Heap.mk_ c_Heap.fn hgd (hr.mono (by decide)) (by rfl) c_Heap.mg  c_Heap.b .nil VS.pass0))
        (pss_cons (ps_if (pt_cmpR op_eq (pv 0) pe_str (nomark _)) (pss_one (ps_ret (pv 2)))
        pss_nil)
        (pss_cons (ps_setLc (i := 3) (own := [("row", 5)]) rfl sc_read_heap.nd rfl rfl (sw_true rfl rfl rfl (by decide +kernel)) (pi_list (pe_m1 PySem.F.slot_str_split PySem.F.type_str_split m_split (pv 0) pe_str)) (blkOk_by (own := [("row", 5)]) (N := n_read_heap) (sc := defScope s_read_heap) (by decide +kernel)) (fun _ _ _ _ _ => (pg_name (i := 5) sc_read_heap.nd rfl (Or.inl rfl))) (fun _ _ _ _ _ => pts_nil) (fun _ _ _ _ _ => (pe_cG c_parcel_told.fn hgd (hr.mono (by decide)) (by rfl) c_parcel_told.mg c_parcel_told.kp c_parcel_told.b .nil VS.pass0 (pa_cons (pv 5) (pa_cons (pv 1) pa_nil)))))
        (pss_cons (ps_if (pt_cmpR (op_inPL hr hsys) pe_non (pv 3) (by rfl)) (pss_one ps_nev)
        pss_nil)
        (pss_cons (ps_for po rfl (pi_list (pv 3)) (pg_name (i := 4) sc_read_heap.nd rfl (Or.inl rfl))
        (pss_one (ps_expr (pe_mG (pv 2) c_Heap_put.cl c_Heap_put.me c_Heap_put.fn hgd (hr.mono (by decide)) d_Heap_put2.b d_Heap_put2.v VS.pass0 (pa_cons (pe_cG c_parcel_of.fn hgd (hr.mono (by decide)) (by rfl) c_parcel_of.mg c_parcel_of.kp c_parcel_of.b .nil VS.pass0 (pa_cons (pv 4) pa_nil)) pa_nil)))))
        (pss_one (ps_ret (pv 2)))))))))), ?_⟩
      (try dsimp only [cxOf, List.map])
      show VX _ _ [_, _, _, _, _, _] _ _
      have sz := szl
      have h12 := gt.l
      have rl : ∀ y ∈ ts.map htS, Asc 558 y := fun y hy => by
        obtain ⟨t, ht, rfl⟩ := List.mem_map.mp hy
        exact ht_asc (gt.g t ht) g
      have za : Asc (12 * (558 + 1)) (hxS ts) := Asc.join (k := 1) (Asc.lit (by decide +kernel)) rl (by rw [List.length_map]; exact gt.l)
      have hs : ts ≠ [] → Txt.split (hxS ts) "\n" = ts.map htS := fun ne => TL.split_join (s := 10) (S := []) (by decide +kernel) (by decide +kernel) (fun z => ne (List.map_eq_nil_iff.mp z)) fun y hy => by
        obtain ⟨t, ht, rfl⟩ := List.mem_map.mp hy
        exact ht_nl (gt.g t ht) g
      walk_at "gr"
      refine ⟨_, rfl, .inl ⟨nm, us, rfl, ?_⟩⟩
      refine vx_seq (vx_asg ?_)
      refine ve_mkHp ?_
      refine va_nil ?_
      refine ⟨rfl, fun h' l' S1 nh nl x1 a1 a2 => ?_⟩
      walk_at "gr"
      refine VS.br (fun h1 => ?_) (fun h1 => ?_)
      · walk_at "gr"
        have e0 : ts = [] := by
          refine Decidable.byContradiction fun ne => ?_
          have := hs ne
          rw [h1, show Txt.split (Str.ofString "") "\n" = [Str.empty] by decide +kernel] at this
          match ts, ne, this, gt with
          | t :: _, _, e, gt =>
            rw [List.map_cons] at e
            exact ht_ne (gt.g t List.mem_cons_self) g (List.cons.inj e).1.symm
        subst e0
        exact q h' l' S1 nh nl x1 ⟨a1, a2⟩
      have ne : ts ≠ [] := fun z => h1 (by rw [z] <;> rfl)
      have hs := hs ne
      walk_at "gr"
      refine ve_lc (vi_list ?_)
      walk_at "gr"
      refine rm_splitV (by decide +kernel) (by have := za.1; omega) ?_
      rw [show Txt.split (hxS ts) (Str.ofString "\n") = ts.map htS from hs]
      refine ⟨_, .v, by rw [List.length_map, List.length_map]; omega, fun i acc S2 => acc = (ts.take i).map toD ∧ S2 = S1, ⟨rfl, rfl⟩, ?_, ?_⟩
      · rintro i d acc S2 hd ⟨rfl, rfl⟩ _
        rw [List.getElem?_map, List.getElem?_map] at hd
        cases e : ts[i]? with
        | none => rw [e] at hd; cases hd
        | some t =>
          rw [e] at hd
          cases hd
          walk_at "gr"
          refine ⟨t, nm, us, rfl, g, gt.g t (List.mem_of_getElem? e), ?_⟩
          exact ⟨by rw [List.take_succ, e, List.map_append] <;> rfl, rfl⟩
      rintro acc S2 ⟨rfl, rfl⟩ _
      rw [List.length_map, List.length_map, List.take_length]
      walk_at "gr"
      refine rv_inPL .v .v rfl (tos_ok gt.g gt.l).sh.p (by decide +kernel) (tos_ok gt.g gt.l).s ?_
      rw [if_neg (by decide), tos_nn]
      walk_at "gr"
      refine vx_for (vi_list ?_)
      walk_at "gr"
      refine ⟨_, .v, fun i ρ2 S3 => Ext S S3 ∧ HpS S3 C_Heap C_Parcel C_Sides h' l' ((ts.take i).map Ht.p) ∧ ∃ x4, ρ2 = [some (.str (hxS ts)), some (msD C_Measure nm us), some (.ref h'), some (.lst (ts.map toD)), x4, none], ⟨x1, ⟨a1, a2⟩, _, rfl⟩, ?_, ?_⟩
      · rintro i d ρ2 S3 hd ⟨x3, hs3, x4, rfl⟩
        rw [List.getElem?_map] at hd
        cases e : ts[i]? with
        | none => rw [e] at hd; cases hd
        | some t =>
          rw [e] at hd
          cases hd
          have hk : i < ts.length := (List.getElem?_eq_some_iff.mp e).1
          have tk : ts.take (i + 1) = ts.take i ++ [t] := by rw [List.take_succ, e]; rfl
          have c1 := hs3.1
          walk_at "gr"
          refine ve_mt (dds := [.non]) (XOk.none (E := noE)) (fun _ _ => .cons .non .nil) ?_
          walk_at "gr"
          refine ⟨t, us, rfl, gt.g t (List.mem_of_getElem? e), ?_⟩
          walk_at "gr"
          refine ⟨h', l', (ts.take i).map Ht.p, t.p, rfl, hs3, ?_, ?_, ?_⟩
          · rw [List.length_map, List.length_take]
            omega
          · have hn := gt.n
            have es : (ts.map Ht.p).map Pc.nm = ((ts.take (i + 1)).map Ht.p).map Pc.nm ++ ((ts.drop (i + 1)).map Ht.p).map Pc.nm := by rw [← List.map_append, ← List.map_append, List.take_append_drop]
            rw [es, tk, List.map_append, List.map_append, List.nodup_append] at hn
            have hn := hn.1
            rw [List.nodup_append] at hn
            exact fun z => hn.2.2 _ z _ (List.mem_singleton.mpr rfl) rfl
          · refine ⟨Ext.wr nl x3, ?_, _, rfl⟩
            rw [tk, show (ts.take i ++ [t]).map Ht.p = (ts.take i).map Ht.p ++ [t.p] from List.map_append]
            exact hs3.set
      · rintro ρ2 S3 ⟨x3, hs3, x4, rfl⟩
        rw [List.length_map, List.take_length] at hs3
        walk_at "gr"
        exact q h' l' S3 nh nl x3 hs3) only [↓VS.box]
theorem ok_heap_retold {f : Addr} {fd : FuncData} {C_Measure C_Sides C_Parcel C_Heap C_NoNumber C_NoSize C_NoMeasure C_NoSide C_NoOrder C_NoSides : Addr} {f_read_heap f_show_heap : Addr} {g_read_heap g_show_heap : FuncData}
    (F : Fd K "heap_retold" "heap_retold" s_heap_retold [] f fd) (T : Tx K mg) (hsys : SysOk base)
    (c_read_heap : Cf P w K mg base (L2.CX P w) 8 "read_heap" s_read_heap [] a_read_heap (p_read_heap C_Measure C_Heap C_Parcel C_Sides) f_read_heap g_read_heap)
    (c_show_heap : Cf P w K mg base (L2.CX P w) 8 "show_heap" s_show_heap [] a_show_heap (p_show_heap C_Measure C_Heap C_Parcel C_Sides) f_show_heap g_show_heap)
    (k_Measure : Kl_Measure K mg C_Measure)
    (k_Heap : Kl_Heap K mg C_Heap)
    (k_Parcel : Kl_Parcel K mg C_Parcel)
    (k_Sides : Kl_Sides K mg C_Sides) :
    FnG P w K mg base (L2.CX P w) 9 f fd a_heap_retold (spOf K (p_heap_retold C_Measure C_Heap C_Parcel C_Sides)) := by
  refine VS.unbox ?_
  simp (disch := with_unfolding_all
    have kc_Measure := k_Measure.ins.cl
    have ka_Measure_called := k_Measure.a_called
    have ka_Measure_parts := k_Measure.a_parts
    have kc_Heap := k_Heap.ins.cl
    have ka_Heap_held := k_Heap.a_held
    have kc_Parcel := k_Parcel.ins.cl
    have ka_Parcel_called := k_Parcel.a_called
    have ka_Parcel_outside := k_Parcel.a_outside
    have ka_Parcel_thick := k_Parcel.a_thick
    have ka_Parcel_heavy := k_Parcel.a_heavy
    have ka_Parcel_strong := k_Parcel.a_strong
    have ka_Parcel_marks := k_Parcel.a_marks
    have kc_Sides := k_Sides.ins.cl
    have ka_Sides_three := k_Sides.a_three
    refine fn_val F sc_heap_retold (fun ds S G Y h => ?_) (fun cdv A hgd outer s H E hr px tk po ds S G Y h => ?_)
    · obtain ⟨ts, nm, nm', us, us', rfl, _⟩ := h
      rfl
    · obtain ⟨ts, nm, nm', us, us', rfl, g, g', gt, q⟩ := h
      refine ⟨_, (pss_cons (ps_set (i := 3) sc_heap_retold.nd rfl (Or.inl rfl) (pe_cG c_read_heap.fn hgd (hr.mono (by decide)) (by rfl) c_read_heap.mg c_read_heap.kp c_read_heap.b .nil VS.pass0 (pa_cons (pv 0) (pa_cons (pv 1) pa_nil))))
        (pss_one (ps_ret (pe_cG c_show_heap.fn hgd (hr.mono (by decide)) (by rfl) c_show_heap.mg c_show_heap.kp c_show_heap.b .nil VS.pass0 (pa_cons (pv 3) (pa_cons (pv 2) pa_nil)))))), ?_⟩
      (try dsimp only [cxOf, List.map])
      show VX _ _ [_, _, _, _] _ _
      have sz := szl
      walk_at "gr"
      refine ⟨ts, nm, us, rfl, g, gt, fun h' l' S1 nh nl x1 hs => ?_⟩
      walk_at "gr"
      exact ⟨_, ts.map Ht.p, nm', us', rfl, hs.is, fun p hp => (by
        obtain ⟨t, ht, rfl⟩ := List.mem_map.mp hp
        exact (gt.g t ht).g), by rw [List.length_map]; exact gt.l, g', q _ x1⟩) only [↓VS.box]
end
end LW
namespace LW
open PySem L2 C8 PySem.Spec PyProof.Rows VS
/-! ### names of units: six at most, none twice, none that is kept -/
theorem kept_split : Txt.split "rest none any x wall weight bears label price" " " = kepts := by decide +kernel
/-- the texts of a walk over numbers -/
def rngF (f : Nat → Str) : D → D
  | .int i => .str (f i.toNat)
  | _ => .non
theorem rng_map {m : Int} {f : Nat → Str} : (rngD 0 m.toNat).map (rngF f) = ((List.range m.toNat).map f).map D.str := by
  unfold rngD
  rw [List.map_map, List.map_map]
  apply List.map_congr_left
  intro a _
  show D.str (f (0 + (a : Int)).toNat) = D.str (f a)
  rw [Int.zero_add, Int.toNat_natCast]
theorem rng_mem {m : Int} {d : D} (h : d ∈ rngD 0 m.toNat) : ∃ k : Nat, d = .int k ∧ (k : Int) < m := by
  obtain ⟨i, hi, rfl⟩ := List.mem_map.mp h
  have := List.mem_range.mp hi
  exact ⟨i, by rw [Int.zero_add], by omega⟩
theorem lett_ex {i : Int} (h0 : 0 ≤ i) (h1 : i < 26) : atI ("abcdefghijklmnopqrstuvwxyz" : Str).cps.toList i = some (97 + i.toNat) := by
  obtain ⟨k, rfl⟩ := Int.eq_ofNat_of_zero_le h0
  have h : ∀ k, k < 26 → ("abcdefghijklmnopqrstuvwxyz" : Str).cps.toList[k]? = some (97 + k) := by decide +kernel
  exact atI_nat (h k (by omega))
def chN (i : Int) : Nat := 97 + (i % 26).toNat
theorem chN_lc (i : Int) : lcN (chN i) = true := by
  have h0 : 0 ≤ i % 26 := Int.emod_nonneg _ (by decide)
  have h1 : i % 26 < 26 := Int.emod_lt_of_pos _ (by decide)
  obtain ⟨n, e, l⟩ := lett_at h0 h1
  rw [lett_ex h0 h1] at e
  cases e
  exact l
/-- a first letter that no kept word has -/
def hdOk (c : Nat) : Bool := lcN c && kepts.all fun z => decide (z.cps.toList.head? ≠ some c)
theorem hd_at {i : Int} (h0 : 0 ≤ i) (h1 : i < 18) : ∃ n, atI ("cdefghijkmoqstuvyz" : Str).cps.toList i = some n ∧ hdOk n = true := by
  obtain ⟨n, hn, e⟩ := atI_mem (xs := ("cdefghijkmoqstuvyz" : Str).cps.toList) h0 (by rw [show ("cdefghijkmoqstuvyz" : Str).cps.toList.length = 18 from by decide +kernel]; exact h1)
  have h : ∀ n ∈ ("cdefghijkmoqstuvyz" : Str).cps.toList, hdOk n = true := by decide +kernel
  exact ⟨n, e, h n hn⟩
def fn3 (f : Int) (a b : Str) (k : Nat) : Str := a ++ ⟨#[chN (f + 7 * (k : Int))]⟩ ++ b
theorem nd_rng {g : Nat → Str} {n : Nat} (h : ∀ k j, k < j → j < n → g k ≠ g j) : ((List.range n).map g).Nodup := by
  rw [List.nodup_iff_pairwise_ne, List.pairwise_map]
  exact List.pairwise_lt_range.imp_of_mem fun _ hb h' => h _ _ h' (List.mem_range.mp hb)
theorem tlA (a b : Str) : (a ++ b).cps.toList = a.cps.toList ++ b.cps.toList := by
  show (a.cps ++ b.cps).toList = _
  rw [Array.toList_append]
theorem ch_inj {f : Int} {k j : Nat} (h1 : k < j) (h2 : j < 14) : chN (f + 7 * (k : Int)) ≠ chN (f + 7 * (j : Int)) := fun e => by
  unfold chN at e
  omega
theorem fn3_nd {f : Int} {a b : Str} {n : Nat} (hn : n ≤ 14) : ((List.range n).map (fn3 f a b)).Nodup := nd_rng fun k j h1 h2 e => by
  unfold fn3 at e
  have e := congrArg (fun z : Str => z.cps.toList) e
  simp only [tlA] at e
  rw [List.append_assoc, List.append_assoc] at e
  have e := List.append_cancel_left e
  injection e with e _
  exact ch_inj h1 (by omega) e
theorem kept_hd {c : Nat} (h : hdOk c = true) {z : Str} (hz : z.cps.toList.head? = some c) : z ∉ kepts := fun m => by
  unfold hdOk at h
  rw [Bool.and_eq_true, List.all_eq_true] at h
  exact of_decide_eq_true (h.2 z m) hz
theorem mul_one (b : Bool) : Txt.mul "z" (if b then 1 else 0) = if b then ("z" : Str) else "" := by cases b <;> decide +kernel
end LW
namespace LW
open PySem L2 C8 PySem.Spec PyProof.Rows VS
/-! ### the law's names (df362b: the same in k41 to k50, k71 to k74, k77 to k79, k90) -/
def p__law_names74 : Pt := fun ds S G _ => ∃ (p : Addr) (n m : Int), ds = [.ref p, .int m] ∧ Pu S p n ∧ n < 800000 ∧ 0 ≤ m ∧ m ≤ 12 ∧
  ∀ (zs : List Str) (S' : Sto), (zs.length : Int) = m → (∀ z ∈ zs, Nm z) → zs.Nodup → Pu S' p (n + 20) → Off p S S' → G (.lst (zs.map D.str)) S'
def nW74 : List Str := Txt.split "x wall rest box parcel in none alone top label by one" " "
theorem nW74_ok : nW74.length = 12 ∧ ∀ z ∈ nW74, Nm z := by
  have h : (nW74.length == 12 && nW74.all fun z => (decide (z.length ≤ 8) && z.cps.toList.all lcN) && decide (1 ≤ z.length)) = true := by decide +kernel
  rw [Bool.and_eq_true, beq_iff_eq, List.all_eq_true] at h
  refine ⟨h.1, fun z hz => ?_⟩
  have := h.2 z hz
  rw [Bool.and_eq_true, decide_eq_true_eq] at this
  exact ⟨Lw.lit this.1, this.2⟩
theorem nW74_nd : nW74.Nodup := by decide +kernel
def hn0 (f : Int) (k : Nat) : Str := (nW74[((f + 5 * (k : Int)) % 12).toNat]?).getD Str.empty
def hn1 (f : Int) (stem : Str) (k : Nat) : Str := cutS stem none (some (1 + (f + 3 * (k : Int)) % 8))
theorem hn0_nd {f : Int} {n : Nat} (hn : n ≤ 12) : ((List.range n).map (hn0 f)).Nodup := nd_rng fun k j h1 h2 e => by
  unfold hn0 at e
  have b0 : 0 ≤ (f + 5 * (k : Int)) % 12 := Int.emod_nonneg _ (by decide)
  have b1 : (f + 5 * (k : Int)) % 12 < 12 := Int.emod_lt_of_pos _ (by decide)
  have c0 : 0 ≤ (f + 5 * (j : Int)) % 12 := Int.emod_nonneg _ (by decide)
  have c1 : (f + 5 * (j : Int)) % 12 < 12 := Int.emod_lt_of_pos _ (by decide)
  have lk : ((f + 5 * (k : Int)) % 12).toNat < nW74.length := by rw [nW74_ok.1]; omega
  have lj : ((f + 5 * (j : Int)) % 12).toNat < nW74.length := by rw [nW74_ok.1]; omega
  rw [List.getElem?_eq_getElem lk, List.getElem?_eq_getElem lj] at e
  have := (List.getElem_inj nW74_nd).mp (show nW74[_] = nW74[_] from e)
  omega
theorem hn1_len {f : Int} {stem : Str} (l8 : stem.length = 8) (k : Nat) : ((hn1 f stem k).length : Int) = 1 + (f + 3 * (k : Int)) % 8 := by
  have b0 : 0 ≤ (f + 3 * (k : Int)) % 8 := Int.emod_nonneg _ (by decide)
  have b1 : (f + 3 * (k : Int)) % 8 < 8 := Int.emod_lt_of_pos _ (by decide)
  unfold hn1
  obtain ⟨i, hi⟩ := Int.eq_ofNat_of_zero_le (a := 1 + (f + 3 * (k : Int)) % 8) (by omega)
  rw [hi, cut_len, l8]
  omega
theorem hn1_nd {f : Int} {stem : Str} {n : Nat} (l8 : stem.length = 8) (hn : n ≤ 8) : ((List.range n).map (hn1 f stem)).Nodup := nd_rng fun k j h1 h2 e => by
  have e1 := hn1_len (f := f) l8 k
  have e2 := hn1_len (f := f) l8 j
  rw [e] at e1
  omega
section
variable {P : Program} {w : World} {K : PySem.W.Frag} {mg : Str → Option Value} {base : Heap}
theorem ok__law_names {f : Addr} {fd : FuncData} {C_Measure C_Sides C_Parcel C_Heap C_NoNumber C_NoSize C_NoMeasure C_NoSide C_NoOrder C_NoSides : Addr} {f__law_take : Addr} {g__law_take : FuncData}
    (F : Fd K "_law_names" "_law_names" s__law_names [] f fd) (T : Tx K mg) (hsys : SysOk base)
    (c__law_take : Cf P w K mg base (L2.CX P w) 1 "_law_take" s__law_take [] a__law_take p__law_take f__law_take g__law_take) :
    FnG P w K mg base (L2.CX P w) 2 f fd a__law_names (spOf K p__law_names74) := by
  refine VS.unbox ?_
  simp (disch := with_unfolding_all
    refine fn_val F sc__law_names (fun ds S G Y h => ?_) (fun cdv A hgd outer s H E hr px tk po ds S G Y h => ?_)
    · obtain ⟨p, n, m, rfl, _⟩ := h
      rfl
    · obtain ⟨p, n, m, rfl, hp, hn, m0, m1, q⟩ := h
      refine ⟨_, (pss_cons (ps_set (i := 2) sc__law_names.nd rfl (Or.inr rfl) pe_str)
        (pss_cons (ps_set (i := 3) sc__law_names.nd rfl (Or.inl rfl) (pe_cG c__law_take.fn hgd (hr.mono (by decide)) (by rfl) c__law_take.mg c__law_take.kp c__law_take.b .nil VS.pass0 (pa_cons (pv 0) (pa_cons pe_int pa_nil))))
        (pss_cons (ps_set (i := 4) sc__law_names.nd rfl (Or.inr rfl) (pe_cG c__law_take.fn hgd (hr.mono (by decide)) (by rfl) c__law_take.mg c__law_take.kp c__law_take.b .nil VS.pass0 (pa_cons (pv 0) (pa_cons pe_int pa_nil))))
        (pss_cons (ps_set (i := 5) sc__law_names.nd rfl (Or.inr rfl) (pe_m1 PySem.F.slot_str_join PySem.F.type_str_join m_join pe_str (pe_lc (own := [("_law_k", 8)]) rfl sc__law_names.nd (pi_range1 (by rfl) T.b_range (pa_cons pe_int pa_nil)) (blkOk_by (own := [("_law_k", 8)]) (N := n__law_names) (sc := defScope s__law_names) (by decide +kernel)) (fun _ _ _ _ _ => (pg_name (i := 8) sc__law_names.nd rfl (Or.inl rfl))) (fun _ _ _ _ _ => pts_nil) (fun _ _ _ _ _ => (pe_ix ix_str (pv 2) (pe_cG c__law_take.fn hgd (hr.mono (by decide)) (by rfl) c__law_take.mg c__law_take.kp c__law_take.b .nil VS.pass0 (pa_cons (pv 0) (pa_cons pe_int pa_nil))) (fun _ _ => rfl))))))
        (pss_cons (ps_if (pt_cmpR op_eq (pv 3) pe_int (nomark _)) (pss_cons (ps_set (i := 6) sc__law_names.nd rfl (Or.inr rfl) (pe_m1 PySem.F.slot_str_split PySem.F.type_str_split m_split pe_str pe_str))
        (pss_one (ps_ret (pe_lc (own := [("_law_k", 8)]) rfl sc__law_names.nd (pi_range1 (by rfl) T.b_range (pa_cons (pv 1) pa_nil)) (blkOk_by (own := [("_law_k", 8)]) (N := n__law_names) (sc := defScope s__law_names) (by decide +kernel)) (fun _ _ _ _ _ => (pg_name (i := 8) sc__law_names.nd rfl (Or.inl rfl))) (fun _ _ _ _ _ => pts_nil) (fun _ _ _ _ _ => (pe_ix (kI (K := K) (r := rIxL) ix_list) (pv 6) (pe_op op_mod (pe_op op_add (pv 4) (pe_op op_mulW pe_int (pv 8))) pe_int) (fun _ _ => rfl)))))))
        pss_nil)
        (pss_cons (ps_if (PW.pt (pw_and (pt_cmpR op_eq (pv 3) pe_int (nomark _)) (pw_and1 (pt_cmpR op_lt (pv 1) pe_int (nomark _))))) (pss_one (ps_ret (pe_lc (own := [("_law_k", 8)]) rfl sc__law_names.nd (pi_range1 (by rfl) T.b_range (pa_cons (pv 1) pa_nil)) (blkOk_by (own := [("_law_k", 8)]) (N := n__law_names) (sc := defScope s__law_names) (by decide +kernel)) (fun _ _ _ _ _ => (pg_name (i := 8) sc__law_names.nd rfl (Or.inl rfl))) (fun _ _ _ _ _ => pts_nil) (fun _ _ _ _ _ => (pe_slice sl_str (pv 5) po_none (po_some (pe_op op_add pe_int (pe_op op_mod (pe_op op_add (pv 4) (pe_op op_mulW pe_int (pv 8))) pe_int))))))))
        pss_nil)
        (pss_cons (ps_set (i := 7) sc__law_names.nd rfl (Or.inr rfl) (pe_cG c__law_take.fn hgd (hr.mono (by decide)) (by rfl) c__law_take.mg c__law_take.kp c__law_take.b .nil VS.pass0 (pa_cons (pv 0) (pa_cons pe_int pa_nil))))
        (pss_cons (ps_set (i := 5) sc__law_names.nd rfl (Or.inr rfl) (pe_slice sl_str (pv 5) po_none (po_some (pe_cG c__law_take.fn hgd (hr.mono (by decide)) (by rfl) c__law_take.mg c__law_take.kp c__law_take.b .nil VS.pass0 (pa_cons (pv 0) (pa_cons pe_int pa_nil))))))
        (pss_one (ps_ret (pe_lc (own := [("_law_k", 8)]) rfl sc__law_names.nd (pi_range1 (by rfl) T.b_range (pa_cons (pv 1) pa_nil)) (blkOk_by (own := [("_law_k", 8)]) (N := n__law_names) (sc := defScope s__law_names) (by decide +kernel)) (fun _ _ _ _ _ => (pg_name (i := 8) sc__law_names.nd rfl (Or.inl rfl))) (fun _ _ _ _ _ => pts_nil) (fun _ _ _ _ _ => (pe_op op_addS (pe_op op_addS (pe_slice sl_str (pv 5) po_none (po_some (pv 7))) (pe_ix ix_str (pv 2) (pe_op op_mod (pe_op op_add (pv 4) (pe_op op_mulW pe_int (pv 8))) pe_int) (fun _ _ => rfl))) (pe_slice sl_str (pv 5) (po_some (pv 7)) po_none)))))))))))))), ?_⟩
      (try dsimp only [cxOf, List.map])
      show VX _ _ [_, _, _, _, _, _, _, _, _] _ _
      walk_at "gr"
      intro w S1 w0 w1 h1 o1
      walk_at "gr"
      intro f S2 f0 f1 h2 o2
      have o2 := o1.trans o2
      clear h1 o1 hp
      walk_at "gr"
      refine ve_lcJ (fun d => ∃ z, d = .str z ∧ Lw 1 z ∧ z.length = 1) (fun i S3 => Pu S3 p (n + 2 + (i : Nat)) ∧ Off p S S3) (vi_rng1 ?_)
      walk_at "gr"
      refine ⟨8, rfl, by decide, by rw [rngD_len]; decide, ⟨h2.mono (by omega), o2⟩, ?_, ?_⟩
      · rintro i d S3 hd ⟨h3, o3⟩
        have hi : i < 8 := by
          have := (List.getElem?_eq_some_iff.mp hd).1
          rw [rngD_len] at this
          exact this
        walk_at "gr"
        refine ⟨rfl, ?_⟩
        walk_at "gr"
        intro t S4 t0 t1 h4 o4
        obtain ⟨ch, ea, el⟩ := lett_at t0 t1
        refine rv_ixS (by decide) ea ?_
        exact ⟨⟨_, rfl, Lw.one el, rfl⟩, h4.mono (by omega), o3.trans o4⟩
      rintro acc S3 hl ha ⟨h3, o3⟩
      rw [rngD_len] at hl h3
      have hl : acc.length = 8 := hl
      have h3 : Pu S3 p (n + 10) := h3.mono (by show n + 2 + ((8 : Nat) : Int) ≤ n + 10; omega)
      obtain ⟨ys, rfl, hy⟩ := strs_all ha
      rw [List.length_map] at hl
      refine rm_join (.l .v) ?_ ?_
      · have := sum_le fun y z => (hy y z).1.1
        rw [show (Str.ofString "").length = 0 from by decide]
        omega
      have w8 : Lw 8 (Txt.join ("" : Str) ys) := Lw.join0 (fun y z => (hy y z).1) (by omega)
      have l8 : (Txt.join ("" : Str) ys).length = 8 := join0_len (fun y z => (hy y z).2) hl
      generalize Txt.join ("" : Str) ys = stem at w8 l8 ⊢
      clear hy hl ha h2 o2
      walk_at "gr"
      refine VS.br (fun e => ?_) (fun e => ?_)
      · walk_at "gr"
        refine rm_splitV rfl (by decide +kernel) ?_
        walk_at "gr"
        refine ve_lcM (rngF (hn0 f)) (vi_rng1 ?_)
        walk_at "gr"
        refine ⟨m, rfl, by omega, by rw [rngD_len]; omega, fun d hd => ?_, ?_⟩
        · obtain ⟨i, rfl, hi⟩ := rng_mem hd
          walk_at "gr"
          refine ⟨rfl, ?_⟩
          walk_at "gr"
          have b0 : 0 ≤ (f + 5 * (i : Int)) % 12 := Int.emod_nonneg _ (by decide)
          have b1 : (f + 5 * (i : Int)) % 12 < 12 := Int.emod_lt_of_pos _ (by decide)
          have li : ((f + 5 * (i : Int)) % 12).toNat < nW74.length := by rw [nW74_ok.1]; omega
          have ea : atI (nW74.map D.str) ((f + 5 * (i : Int)) % 12) = some (.str (hn0 f i)) := by
            obtain ⟨t, ht⟩ := Int.eq_ofNat_of_zero_le b0
            unfold hn0
            rw [ht] at li ⊢
            rw [Int.toNat_natCast] at li ⊢
            refine atI_nat ?_
            rw [List.getElem?_map, List.getElem?_eq_getElem li]
            rfl
          refine rv_ixL .v ea ?_
          exact ⟨rfl, rfl⟩
        · rw [rng_map]
          refine q _ _ (by rw [List.length_map, List.length_range]; omega) (fun z hz => ?_) (hn0_nd (by omega)) (h3.mono (by omega)) o3
          obtain ⟨i, _, rfl⟩ := List.mem_map.mp hz
          have b0 : 0 ≤ (f + 5 * (i : Int)) % 12 := Int.emod_nonneg _ (by decide)
          have b1 : (f + 5 * (i : Int)) % 12 < 12 := Int.emod_lt_of_pos _ (by decide)
          have li : ((f + 5 * (i : Int)) % 12).toNat < nW74.length := by rw [nW74_ok.1]; omega
          unfold hn0
          rw [List.getElem?_eq_getElem li]
          exact nW74_ok.2 _ (List.getElem_mem _)
      refine vx_next ?_
      refine vx_join (fun ρ' S' => S' = S3 ∧ ρ' = [some (.ref p), some (.int m), some (.str "abcdefghijklmnopqrstuvwxyz"), some (.int w), some (.int f), some (.str stem), none, none, none]) ?_ ?_
      · walk_at "gr"
        refine ⟨fun _ => ?_, fun _ => ?_⟩
        · walk_at "gr"
          refine VS.br (fun e2 => ?_) (fun e2 => ?_)
          · walk_at "gr"
            refine ve_lcM (rngF (hn1 f stem)) (vi_rng1 ?_)
            walk_at "gr"
            refine ⟨m, rfl, by omega, by rw [rngD_len]; omega, fun d hd => ?_, ?_⟩
            · obtain ⟨i, rfl, hi⟩ := rng_mem hd
              walk_at "gr"
              refine ⟨rfl, ?_⟩
              walk_at "gr"
              exact ⟨rfl, rfl⟩
            · rw [rng_map]
              refine q _ _ (by rw [List.length_map, List.length_range]; omega) (fun z hz => ?_) (hn1_nd l8 (by omega)) (h3.mono (by omega)) o3
              obtain ⟨i, _, rfl⟩ := List.mem_map.mp hz
              have ln := hn1_len (f := f) l8 i
              have b0 : 0 ≤ (f + 3 * (i : Int)) % 8 := Int.emod_nonneg _ (by decide)
              exact ⟨(w8.cut _ _), by omega⟩
          · walk_at "gr"
            exact ⟨rfl, rfl⟩
        · walk_at "gr"
          exact ⟨rfl, rfl⟩
      rintro _ _ ⟨rfl, rfl⟩
      walk_at "gr"
      intro at_ S4 at0 at1 h4 o4
      walk_at "gr"
      intro t S5 t0 t1 h5 o5
      have o5 := (o3.trans o4).trans o5
      obtain ⟨ka, rfl⟩ := Int.eq_ofNat_of_zero_le at0
      obtain ⟨kt, rfl⟩ := Int.eq_ofNat_of_zero_le t0
      clear h3 o3 h4 o4
      walk_at "gr"
      have w7 : Lw 7 (cutS stem none (some ((kt : Nat) : Int))) := by
        refine ⟨?_, (w8.cut _ _).2⟩
        rw [cut_len]
        omega
      generalize cutS stem none (some ((kt : Nat) : Int)) = st2 at w7 ⊢
      have l7 := w7.1
      clear w8 l8
      have c1 := cut_len st2 ka
      have c2 := cut_lenR st2 ka
      walk_at "gr"
      refine ve_lcM (rngF (fn3 f (cutS st2 none (some (ka : Int))) (cutS st2 (some (ka : Int)) none))) (vi_rng1 ?_)
      walk_at "gr"
      refine ⟨m, rfl, by omega, by rw [rngD_len]; omega, fun d hd => ?_, ?_⟩
      · obtain ⟨i, rfl, hi⟩ := rng_mem hd
        walk_at "gr"
        refine ⟨rfl, ?_⟩
        walk_at "gr"
        have b0 : 0 ≤ (f + 7 * (i : Int)) % 26 := Int.emod_nonneg _ (by decide)
        have b1 : (f + 7 * (i : Int)) % 26 < 26 := Int.emod_lt_of_pos _ (by decide)
        refine rv_ixS (by decide) (lett_ex b0 b1) ?_
        have l1 : (⟨#[97 + ((f + 7 * (i : Int)) % 26).toNat]⟩ : Str).length = 1 := rfl
        walk_at "gr"
        exact rv_addS (by rw [len_add]; have := szl; omega) ⟨rfl, rfl⟩
      rw [rng_map]
      refine q _ _ (by rw [List.length_map, List.length_range]; omega) (fun z hz => ?_) (fn3_nd (by omega)) (h5.mono (by omega)) o5
      obtain ⟨i, _, rfl⟩ := List.mem_map.mp hz
      have l1 : (⟨#[chN (f + 7 * (i : Int))]⟩ : Str).length = 1 := rfl
      have le : (fn3 f (cutS st2 none (some (ka : Int))) (cutS st2 (some (ka : Int)) none) i).length = st2.length + 1 := by
        unfold fn3
        rw [len_add, len_add]
        omega
      exact ⟨⟨by omega, (((w7.cut none (some (ka : Int))).add (Lw.one (chN_lc _))).add (w7.cut (some (ka : Int)) none)).2⟩, by omega⟩) only [↓VS.box]
end
end LW
namespace LW
open PySem L2 C8 PySem.Spec PyProof.Rows VS
/-! ### three sides (2ca5ae: the same in k41 to k50, k71 to k74, k77, k78, k90) -/
def p__law_three74 : Pt := fun ds S G _ => ∃ (p : Addr) (n mo : Int), ds = [.ref p, .int mo] ∧ Pu S p n ∧ n < 800000 ∧ 12 ≤ mo ∧ mo ≤ 100000 ∧
  ∀ a b c (l : Addr) S', (1 ≤ a ∧ a ≤ mo) → (1 ≤ b ∧ b ≤ mo) → (1 ≤ c ∧ c ≤ mo) → S l = none → S' l = some (.lst [.int a, .int b, .int c]) → Pu S' p (n + 6) → Ex1 p S S' → G (.ref l) S'
section
variable {P : Program} {w : World} {K : PySem.W.Frag} {mg : Str → Option Value} {base : Heap}
theorem ok__law_three {f : Addr} {fd : FuncData} {C_Measure C_Sides C_Parcel C_Heap C_NoNumber C_NoSize C_NoMeasure C_NoSide C_NoOrder C_NoSides : Addr} {f__law_take : Addr} {g__law_take : FuncData}
    (F : Fd K "_law_three" "_law_three" s__law_three [] f fd) (T : Tx K mg) (hsys : SysOk base)
    (c__law_take : Cf P w K mg base (L2.CX P w) 1 "_law_take" s__law_take [] a__law_take p__law_take f__law_take g__law_take) :
    FnG P w K mg base (L2.CX P w) 2 f fd a__law_three (spOf K p__law_three74) := by
  refine VS.unbox ?_
  simp (disch := with_unfolding_all
    refine fn_val F sc__law_three (fun ds S G Y h => ?_) (fun cdv A hgd outer s H E hr px tk po ds S G Y h => ?_)
    · obtain ⟨p, n, mo, rfl, _⟩ := h
      rfl
    · obtain ⟨p, n, mo, rfl, hp, hn, m0, m1, q⟩ := h
      refine ⟨_, (pss_cons (ps_set (i := 2) sc__law_three.nd rfl (Or.inr rfl) (pe_ix ix_list (pe_lst (pa_cons pe_int (pa_cons pe_int (pa_cons (pv 1) pa_nil)))) (pe_cG c__law_take.fn hgd (hr.mono (by decide)) (by rfl) c__law_take.mg c__law_take.kp c__law_take.b .nil VS.pass0 (pa_cons (pv 0) (pa_cons pe_int pa_nil))) (fun _ _ => rfl)))
        (pss_cons (ps_setLc (i := 3) (own := [("_law_k", 5)]) rfl sc__law_three.nd rfl rfl (sw_true rfl rfl rfl (by decide +kernel)) (pi_range1 (by rfl) T.b_range (pa_cons pe_int pa_nil)) (blkOk_by (own := [("_law_k", 5)]) (N := n__law_three) (sc := defScope s__law_three) (by decide +kernel)) (fun _ _ _ _ _ => (pg_name (i := 5) sc__law_three.nd rfl (Or.inl rfl))) (fun _ _ _ _ _ => pts_nil) (fun _ _ _ _ _ => (pe_op op_add pe_int (pe_cG c__law_take.fn hgd (hr.mono (by decide)) (by rfl) c__law_take.mg c__law_take.kp c__law_take.b .nil VS.pass0 (pa_cons (pv 0) (pa_cons (pv 2) pa_nil))))))
        (pss_cons (ps_set (i := 4) sc__law_three.nd rfl (Or.inl rfl) (pe_cG c__law_take.fn hgd (hr.mono (by decide)) (by rfl) c__law_take.mg c__law_take.kp c__law_take.b .nil VS.pass0 (pa_cons (pv 0) (pa_cons pe_int pa_nil))))
        (pss_cons (ps_if (pt_cmpR op_lt (pv 4) pe_int (nomark _)) (pss_one (ps_asg (pe_ix ix_list (pv 3) (pe_op op_mod (pe_op op_add (pv 4) pe_int) pe_int) (fun _ _ => rfl)) (pg_sub (pv 3) (pv 4) set_list)))
        pss_nil)
        (pss_cons (ps_if (pt_cmpR op_eq (pv 4) pe_int (nomark _)) (pss_one (ps_set (i := 3) sc__law_three.nd rfl (Or.inl rfl) (pe_lst (pa_cons (pe_ix ix_list (pv 3) pe_int (fun _ _ => rfl)) (pa_cons (pe_ix ix_list (pv 3) pe_int (fun _ _ => rfl)) (pa_cons (pe_ix ix_list (pv 3) pe_int (fun _ _ => rfl)) pa_nil))))))
        pss_nil)
        (pss_cons (ps_if (pt_cmpR op_eq (pv 4) pe_int (nomark _)) (pss_one (ps_asg (pv 1) (pg_sub (pv 3) (pe_cG c__law_take.fn hgd (hr.mono (by decide)) (by rfl) c__law_take.mg c__law_take.kp c__law_take.b .nil VS.pass0 (pa_cons (pv 0) (pa_cons pe_int pa_nil))) set_list)))
        pss_nil)
        (pss_one (ps_ret (pv 3))))))))), ?_⟩
      (try dsimp only [cxOf, List.map])
      show VX _ _ [_, _, _, _, _, _] _ _
      have sz := szl
      walk_at "gr"
      refine ve_lst ?_
      walk_at "gr"
      intro t S1 t0 t1 h1 o1
      obtain ⟨x, ea, gr, rfl, g0, g1⟩ := pick (fun x => ∃ g : Int, x = .int g ∧ 1 ≤ g ∧ g ≤ mo) (xs := [.int 3, .int 12, .int mo]) t0 (show t < 3 from t1)
        (ac ⟨3, rfl, by decide, by omega⟩ (ac ⟨12, rfl, by decide, by omega⟩ (ac ⟨mo, rfl, by omega, by omega⟩ an)))
      refine rv_ixL .v ea ?_
      clear ea
      walk_at "gr"
      refine ve_lccJ (fun d => ∃ v : Int, d = .int v ∧ 1 ≤ v ∧ v ≤ mo) (fun i S3 => Pu S3 p (n + 1 + (i : Nat)) ∧ Off p S S3) (vi_rng1 ?_)
      walk_at "gr"
      refine ⟨3, rfl, by decide, by rw [rngD_len]; decide, ⟨h1.mono (by omega), o1⟩, ?_, ?_⟩
      · rintro i d S3 hd ⟨h3, o3⟩
        obtain ⟨rfl, hi⟩ := rngD_at hd
        walk_at "gr"
        refine ⟨rfl, ?_⟩
        walk_at "gr"
        intro u S4 u0 u1 h4 o4
        walk_at "gr"
        exact ⟨⟨_, rfl, by omega, by omega⟩, h4.mono (by omega), o3.trans o4⟩
      rintro acc S3 hl ha ⟨h3, o3⟩ l hl0
      rw [rngD_len] at hl h3
      have h3 : Pu S3 p (n + 4) := h3.mono (by show n + 1 + ((3 : Nat) : Int) ≤ n + 4; omega)
      obtain ⟨a, b, c, rfl, ha, hb, hc⟩ : ∃ a b c : Int, acc = [.int a, .int b, .int c] ∧ (1 ≤ a ∧ a ≤ mo) ∧ (1 ≤ b ∧ b ≤ mo) ∧ (1 ≤ c ∧ c ≤ mo) := by
        match acc, hl, ha with
        | [x, y, z], _, ha =>
          obtain ⟨a, rfl, ha1⟩ := ha x (by simp)
          obtain ⟨b, rfl, hb1⟩ := ha y (by simp)
          obtain ⟨c, rfl, hc1⟩ := ha z (by simp)
          exact ⟨a, b, c, rfl, ha1, hb1, hc1⟩
      have npl := h3.ne hl0
      have h3' := h3.put (d := .lst [.int a, .int b, .int c]) hl0
      have nS : S l = none := by rw [← o3 l npl.symm]; exact hl0
      walk_at "gr"
      intro wy S4 y0 y1 h4 o4
      have c4 : S4 l = some (.lst [.int a, .int b, .int c]) := (o4 l npl.symm).trans put_same
      have e4 : Ex1 p S S4 := (o3.ex1.new hl0).trans o4.ex1
      clear h3 h3' o3 o4 h1 o1 hl0 hl
      have fin : ∀ (a b c : Int) (l : Addr) S', (1 ≤ a ∧ a ≤ mo) → (1 ≤ b ∧ b ≤ mo) → (1 ≤ c ∧ c ≤ mo) → S l = none → S' l = some (.lst [.int a, .int b, .int c]) → Pu S' p (n + 6) → Ex1 p S S' → G (.ref l) S' := q
      have ex : ∀ {S5 : Sto} {d : D}, Ex1 p S S5 → Ex1 p S (put S5 l d) := fun {S5 d} o a x ha hs => by
        have ne : a ≠ l := fun z => by rw [z, nS] at hs; cases hs
        exact (put_ne ne).trans (o a x ha hs)
      have wy6 : wy = 0 ∨ wy = 1 ∨ wy = 2 ∨ wy = 3 ∨ wy = 4 ∨ wy = 5 := by omega
      rcases wy6 with rfl | rfl | rfl | rfl | rfl | rfl
      · walk_at "gr"
        refine ⟨0, 0, _, rfl, c4, rfl, ?_⟩
        walk_at "gr"
        exact fin b b c l _ hb hb hc nS put_same ((h4.wr npl).mono (by omega)) (ex e4)
      · walk_at "gr"
        refine ⟨1, 1, _, rfl, c4, rfl, ?_⟩
        walk_at "gr"
        exact fin a c c l _ ha hc hc nS put_same ((h4.wr npl).mono (by omega)) (ex e4)
      · walk_at "gr"
        refine ⟨2, 2, _, rfl, c4, rfl, ?_⟩
        walk_at "gr"
        exact fin a b a l _ ha hb ha nS put_same ((h4.wr npl).mono (by omega)) (ex e4)
      · walk_at "gr"
        refine ve_lstc ?_
        walk_at "gr"
        intro l2 hl2
        have n2 := h4.ne hl2
        have s2 : S l2 = none := by
          cases e : S l2 with
          | none => rfl
          | some d =>
            rw [e4 l2 d n2.symm e] at hl2
            cases hl2
        walk_at "gr"
        exact fin a a a l2 _ ha ha ha s2 put_same ((h4.put hl2).mono (by omega)) (e4.new hl2)
      · walk_at "gr"
        intro t5 S5 u0 u1 h5 o5
        have c5 : S5 l = some (.lst [.int a, .int b, .int c]) := (o5 l npl.symm).trans c4
        have e5 : Ex1 p S S5 := e4.trans o5.ex1
        have hm : 1 ≤ mo ∧ mo ≤ mo := by omega
        have t3 : t5 = 0 ∨ t5 = 1 ∨ t5 = 2 := by omega
        rcases t3 with rfl | rfl | rfl
        · refine ⟨0, 0, _, rfl, c5, rfl, ?_⟩
          walk_at "gr"
          exact fin mo b c l _ hm hb hc nS put_same ((h5.wr npl).mono (by omega)) (ex e5)
        · refine ⟨1, 1, _, rfl, c5, rfl, ?_⟩
          walk_at "gr"
          exact fin a mo c l _ ha hm hc nS put_same ((h5.wr npl).mono (by omega)) (ex e5)
        · refine ⟨2, 2, _, rfl, c5, rfl, ?_⟩
          walk_at "gr"
          exact fin a b mo l _ ha hb hm nS put_same ((h5.wr npl).mono (by omega)) (ex e5)
      · walk_at "gr"
        exact fin a b c l S4 ha hb hc nS c4 (h4.mono (by omega)) e4) only [↓VS.box]
end
end LW
namespace LW
open PySem L2 C8 PySem.Spec PyProof.Rows VS
/-! ### parcels compared -/
def lsD (a b c x y z : Int) : List D := (perms.filter fun p => decide (tnl a b c p = [x, y, z])).map fun p => .tup (p.map D.int)
def upD : D → Bool
  | .tup [_, _, .int k] => decide (k = 2)
  | _ => false
def lies (a b c x y z : Int) (up : Bool) : Bool := if up = true then !(((lsD a b c x y z).filter upD).map id).isEmpty else !(lsD a b c x y z).isEmpty
def numsD (wl wt br : Int) (mk : List Str) : D := .tup [.int wl, .int wt, .int br, .lst (mk.map D.str)]
def p_Pc_numbers (CP CS : Addr) : Pt := fun ds S G _ => ∃ nm a b c wl wt br mk, ds = [pcD CP CS nm a b c wl wt br mk] ∧ G (numsD wl wt br mk) S
def p_Pc_kind (CP CS : Addr) : Pt := fun ds S G _ => ∃ nm a b c wl wt br mk, ds = [pcD CP CS nm a b c wl wt br mk] ∧ G (.str "parcel") S
def p_Pc_lies (CP CS : Addr) : Pt := fun ds S G _ => ∃ nm a b c wl wt br mk nm' x y z wl' wt' br' mk', ds = [pcD CP CS nm a b c wl wt br mk, pcD CP CS nm' x y z wl' wt' br' mk'] ∧ Pg nm a b c wl wt br mk ∧ G (.bl (lies a b c x y z (decide (("upright" : Str) ∈ mk)))) S
def pceq (a b c wl wt br : Int) (mk : List Str) (x y z wl' wt' br' : Int) (mk' : List Str) : Bool := decide (wl = wl' ∧ wt = wt' ∧ br = br' ∧ mk = mk') && lies a b c x y z (decide (("upright" : Str) ∈ mk))
def p_Pc_eq (K : PySem.W.Frag) (CP CS : Addr) : Pt := fun ds S G _ => ∃ nm a b c wl wt br mk d, ds = [pcD CP CS nm a b c wl wt br mk, d] ∧ Pg nm a b c wl wt br mk ∧
  ((∃ t, OfC K S d t ∧ PySem.W.kitOne K t (.ref CP) = some false ∧ G (.bl false) S) ∨ ∃ nm' x y z wl' wt' br' mk', d = pcD CP CS nm' x y z wl' wt' br' mk' ∧ Pg nm' x y z wl' wt' br' mk' ∧ G (.bl (pceq a b c wl wt br mk x y z wl' wt' br' mk')) S)
theorem eqvL_strs : ∀ {ms ns : List Str}, PyData.eqvAll (pdL (ms.map D.str)) (pdL (ns.map D.str)) = decide (ms = ns)
  | [], [] => rfl
  | [], _ :: _ => rfl
  | _ :: _, [] => rfl
  | a :: ms, b :: ns => by
    show ((a == b) && PyData.eqvAll (pdL (ms.map D.str)) (pdL (ns.map D.str))) = _
    rw [eqvL_strs]
    by_cases h : a = b
    · subst h
      by_cases h2 : ms = ns
      · subst h2; simp
      · simp [h2]
    · simp [h]
theorem nums_eqv {wl wt br wl' wt' br' : Int} {mk mk' : List Str} : PyData.eqv (pd (numsD wl wt br mk)) (pd (numsD wl' wt' br' mk')) = decide (wl = wl' ∧ wt = wt' ∧ br = br' ∧ mk = mk') := by
  show ((wl == wl') && ((wt == wt') && ((br == br') && (PyData.eqvAll (pdL (mk.map D.str)) (pdL (mk'.map D.str)) && true)))) = _
  rw [eqvL_strs, Bool.eq_iff_iff]
  simp
theorem labs_asc7 {m : Str} (h : m ∈ labs) : Asc 7 m := by
  simp only [labs, List.mem_cons, List.not_mem_nil, or_false] at h
  rcases h with rfl | rfl | rfl <;> exact Asc.lit (by decide)
theorem nums_ok {nm : Str} {a b c wl wt br : Int} {mk : List Str} (g : Pg nm a b c wl wt br mk) : Ok (numsD wl wt br mk) 5000 5 := by
  have h1 := g.wl
  have h2 := g.wt
  have h3 := g.br
  have i : ∀ v : Int, 0 ≤ v → v ≤ 100000 → Ok (.int v) 700 3 := fun v a b => (ok_int ⟨by omega, by omega⟩).mono (by decide) (by decide)
  have l : Ok (.lst (mk.map D.str)) 700 3 := (Ok.lst 3 (fun y hy => by
    obtain ⟨m, hm, rfl⟩ := List.mem_map.mp hy
    exact ok_str (labs_asc7 (g.lb.e m hm)) (by decide)) (by rw [List.length_map]; exact g.lb.l) (by decide)).mono (by decide) (by decide)
  refine (Ok.tup 4 (fun y hy => ?_) (Nat.le_refl _) (by decide) (by decide)).mono (n := 4 * (700 + 2) + 3) (k := 4) (by decide) (by decide)
  simp only [List.mem_cons, List.not_mem_nil, or_false] at hy
  rcases hy with rfl | rfl | rfl | rfl
  · exact i _ (by omega) (by omega)
  · exact i _ (by omega) (by omega)
  · exact i _ (by omega) (by omega)
  · exact l
section
variable {P : Program} {w : World} {K : PySem.W.Frag} {mg : Str → Option Value} {base : Heap}
theorem ok_Parcel_numbers {f : Addr} {fd : FuncData} {C_Measure C_Sides C_Parcel C_Heap C_NoNumber C_NoSize C_NoMeasure C_NoSide C_NoOrder C_NoSides : Addr}
    (F : Fd K "numbers" "Parcel.numbers" s_Parcel_numbers [] f fd) (T : Tx K mg) (hsys : SysOk base)
    (k_Parcel : Kl_Parcel K mg C_Parcel)
    (k_Sides : Kl_Sides K mg C_Sides) :
    FnG P w K mg base (L2.CX P w) 1 f fd a_Parcel_numbers (spOf K (p_Pc_numbers C_Parcel C_Sides)) := by
  refine VS.unbox ?_
  simp (disch := with_unfolding_all
    have kc_Parcel := k_Parcel.ins.cl
    have ka_Parcel_called := k_Parcel.a_called
    have ka_Parcel_outside := k_Parcel.a_outside
    have ka_Parcel_thick := k_Parcel.a_thick
    have ka_Parcel_heavy := k_Parcel.a_heavy
    have ka_Parcel_strong := k_Parcel.a_strong
    have ka_Parcel_marks := k_Parcel.a_marks
    have kc_Sides := k_Sides.ins.cl
    have ka_Sides_three := k_Sides.a_three
    refine fn_val F sc_Parcel_numbers (fun ds S G Y h => ?_) (fun cdv A hgd outer s H E hr px tk po ds S G Y h => ?_)
    · obtain ⟨nm, a, b, c, wl, wt, br, mk, rfl, _⟩ := h
      rfl
    · obtain ⟨nm, a, b, c, wl, wt, br, mk, rfl, q⟩ := h
      refine ⟨_, (pss_one (ps_ret (pe_tup (pa_cons (pe_fld (pv 0) rfl) (pa_cons (pe_fld (pv 0) rfl) (pa_cons (pe_fld (pv 0) rfl) (pa_cons (pe_fld (pv 0) rfl) pa_nil))))))), ?_⟩
      (try dsimp only [cxOf, List.map])
      show VX _ _ [_] _ _
      walk_at "ga"
      exact q) only [↓VS.box]
theorem ok_Parcel_kind {f : Addr} {fd : FuncData} {C_Measure C_Sides C_Parcel C_Heap C_NoNumber C_NoSize C_NoMeasure C_NoSide C_NoOrder C_NoSides : Addr}
    (F : Fd K "kind" "Parcel.kind" s_Parcel_kind [] f fd) (T : Tx K mg) (hsys : SysOk base)
    (k_Parcel : Kl_Parcel K mg C_Parcel)
    (k_Sides : Kl_Sides K mg C_Sides) :
    FnG P w K mg base (L2.CX P w) 1 f fd a_Parcel_kind (spOf K (p_Pc_kind C_Parcel C_Sides)) := by
  refine VS.unbox ?_
  simp (disch := with_unfolding_all
    have kc_Parcel := k_Parcel.ins.cl
    have ka_Parcel_called := k_Parcel.a_called
    have ka_Parcel_outside := k_Parcel.a_outside
    have ka_Parcel_thick := k_Parcel.a_thick
    have ka_Parcel_heavy := k_Parcel.a_heavy
    have ka_Parcel_strong := k_Parcel.a_strong
    have ka_Parcel_marks := k_Parcel.a_marks
    have kc_Sides := k_Sides.ins.cl
    have ka_Sides_three := k_Sides.a_three
    refine fn_val F sc_Parcel_kind (fun ds S G Y h => ?_) (fun cdv A hgd outer s H E hr px tk po ds S G Y h => ?_)
    · obtain ⟨nm, a, b, c, wl, wt, br, mk, rfl, _⟩ := h
      rfl
    · obtain ⟨nm, a, b, c, wl, wt, br, mk, rfl, q⟩ := h
      refine ⟨_, (pss_one (ps_ret pe_str)), ?_⟩
      (try dsimp only [cxOf, List.map])
      show VX _ _ [_] _ _
      walk_at "ga"
      exact q) only [↓VS.box]
theorem ok_Parcel_lies_like {f : Addr} {fd : FuncData} {C_Measure C_Sides C_Parcel C_Heap C_NoNumber C_NoSize C_NoMeasure C_NoSide C_NoOrder C_NoSides : Addr} {f_Sides_orders_to : Addr} {g_Sides_orders_to : FuncData}
    (F : Fd K "lies_like" "Parcel.lies_like" s_Parcel_lies_like [] f fd) (T : Tx K mg) (hsys : SysOk base)
    (c_Sides_orders_to : Mf P w K mg base 6 C_Sides "orders_to" "Sides.orders_to" s_Sides_orders_to [] a_Sides_orders_to (p_orders_to K C_Sides C_NoSides) f_Sides_orders_to g_Sides_orders_to)
    (k_Parcel : Kl_Parcel K mg C_Parcel)
    (k_Sides : Kl_Sides K mg C_Sides) :
    FnG P w K mg base (L2.CX P w) 7 f fd a_Parcel_lies_like (spOf K (p_Pc_lies C_Parcel C_Sides)) := by
  refine VS.unbox ?_
  simp (disch := with_unfolding_all
    have kc_Parcel := k_Parcel.ins.cl
    have ka_Parcel_called := k_Parcel.a_called
    have ka_Parcel_outside := k_Parcel.a_outside
    have ka_Parcel_thick := k_Parcel.a_thick
    have ka_Parcel_heavy := k_Parcel.a_heavy
    have ka_Parcel_strong := k_Parcel.a_strong
    have ka_Parcel_marks := k_Parcel.a_marks
    have kc_Sides := k_Sides.ins.cl
    have ka_Sides_three := k_Sides.a_three
    refine fn_val F sc_Parcel_lies_like (fun ds S G Y h => ?_) (fun cdv A hgd outer s H E hr px tk po ds S G Y h => ?_)
    · obtain ⟨nm, a, b, c, wl, wt, br, mk, nm', x, y, z, wl', wt', br', mk', rfl, _⟩ := h
      rfl
    · obtain ⟨nm, a, b, c, wl, wt, br, mk, nm', x, y, z, wl', wt', br', mk', rfl, g, q⟩ := h
      refine ⟨_, (pss_cons (ps_set (i := 2) sc_Parcel_lies_like.nd rfl (Or.inl rfl) (pe_mG (pe_fld (pv 0) rfl) c_Sides_orders_to.cl c_Sides_orders_to.me c_Sides_orders_to.fn hgd (hr.mono (by decide)) c_Sides_orders_to.b .nil VS.pass0 (pa_cons (pe_fld (pv 1) rfl) pa_nil)))
        (pss_cons (ps_if (pt_cmpR op_in_seq pe_str (pe_fld (pv 0) rfl) (by rfl)) (pss_one (ps_setLc (i := 2) (own := [("order", 3)]) rfl sc_Parcel_lies_like.nd rfl rfl (sw_true rfl rfl rfl (by decide +kernel)) (pi_list (pv 2)) (blkOk_by (own := [("order", 3)]) (N := n_Parcel_lies_like) (sc := defScope s_Parcel_lies_like) (by decide +kernel)) (fun _ _ _ _ _ => (pg_name (i := 3) sc_Parcel_lies_like.nd rfl (Or.inl rfl))) (fun _ _ _ _ _ => (pts_one (pt_cmpR op_eq (pe_ix (kI (K := K) (r := rIxT) ix_tup) (pv 3) pe_int (fun _ _ => rfl)) pe_int (nomark _)))) (fun _ _ _ _ _ => (pv 3))))
        pss_nil)
        (pss_one (ps_ret (pe_cmpR (op_neE hr) (pv 2) (pe_lst pa_nil) (nomark _)))))), ?_⟩
      (try dsimp only [cxOf, List.map])
      show VX _ _ [_, _, _, _] _ _
      walk_at "ga"
      refine ⟨a, b, c, _, rfl, g.a, g.b, g.c, .inl ⟨x, y, z, rfl, ?_⟩⟩
      show VG _ _ (.lst (lsD a b c x y z)) _ _ _
      walk_at "ga"
      refine rv_in (.l .v) rfl (flat_strs mk) ?_
      rw [inD_strs]
      walk_at "ga"
      unfold lies at q
      refine ⟨fun h => ?_, fun h => ?_⟩
      · have h : decide (("upright" : Str) ∈ mk) = true := h
        rw [if_pos h] at q
        walk_at "ga"
        refine ve_lcF upD id (vi_list ?_)
        walk_at "ga"
        refine ⟨_, .v, ?_, fun d hd => ?_, ?_⟩
        · unfold lsD
          rw [List.length_map]
          exact Nat.le_trans (List.length_filter_le _ _) (by decide)
        · obtain ⟨p, hp, rfl⟩ := List.mem_map.mp hd
          obtain ⟨i, j, k, rfl, _⟩ := perm_len (List.mem_filter.mp hp).1
          walk_at "ga"
          exact ⟨rfl, fun _ => rfl, fun _ => by walk_at "ga"; exact ⟨rfl, rfl⟩⟩
        walk_at "ga"
        exact q
      · have h : decide (("upright" : Str) ∈ mk) = false := h
        rw [if_neg (by rw [h]; decide)] at q
        walk_at "ga"
        exact q) only [↓VS.box]
theorem ok_Parcel___eq__ {f : Addr} {fd : FuncData} {C_Measure C_Sides C_Parcel C_Heap C_NoNumber C_NoSize C_NoMeasure C_NoSide C_NoOrder C_NoSides : Addr} {f_Parcel_numbers f_Parcel_kind f_Parcel_lies_like : Addr} {g_Parcel_numbers g_Parcel_kind g_Parcel_lies_like : FuncData}
    (F : Fd K "__eq__" "Parcel.__eq__" s_Parcel___eq__ [] f fd) (T : Tx K mg) (hsys : SysOk base)
    (c_Parcel_numbers : Mf P w K mg base 1 C_Parcel "numbers" "Parcel.numbers" s_Parcel_numbers [] a_Parcel_numbers (p_Pc_numbers C_Parcel C_Sides) f_Parcel_numbers g_Parcel_numbers)
    (c_Parcel_kind : Mf P w K mg base 1 C_Parcel "kind" "Parcel.kind" s_Parcel_kind [] a_Parcel_kind (p_Pc_kind C_Parcel C_Sides) f_Parcel_kind g_Parcel_kind)
    (c_Parcel_lies_like : Mf P w K mg base 7 C_Parcel "lies_like" "Parcel.lies_like" s_Parcel_lies_like [] a_Parcel_lies_like (p_Pc_lies C_Parcel C_Sides) f_Parcel_lies_like g_Parcel_lies_like)
    (k_Parcel : Kl_Parcel K mg C_Parcel)
    (k_Sides : Kl_Sides K mg C_Sides) :
    FnG P w K mg base (L2.CX P w) 8 f fd a_Parcel___eq__ (spOf K (p_Pc_eq K C_Parcel C_Sides)) := by
  refine VS.unbox ?_
  simp (disch := with_unfolding_all
    have kc_Parcel := k_Parcel.ins.cl
    have ka_Parcel_called := k_Parcel.a_called
    have ka_Parcel_outside := k_Parcel.a_outside
    have ka_Parcel_thick := k_Parcel.a_thick
    have ka_Parcel_heavy := k_Parcel.a_heavy
    have ka_Parcel_strong := k_Parcel.a_strong
    have ka_Parcel_marks := k_Parcel.a_marks
    have kc_Sides := k_Sides.ins.cl
    have ka_Sides_three := k_Sides.a_three
    refine fn_val F sc_Parcel___eq__ (fun ds S G Y h => ?_) (fun cdv A hgd outer s H E hr px tk po ds S G Y h => ?_)
    · obtain ⟨nm, a, b, c, wl, wt, br, mk, d, rfl, _⟩ := h
      rfl
    · obtain ⟨nm, a, b, c, wl, wt, br, mk, d, rfl, g, h⟩ := h
      refine ⟨_, (pss_cons (ps_if (PW.pt (pw_or (pt_not (pt_val (pe_callB c_isiZ (by rfl) T.b_isinstance (by decide +kernel) (pa_cons (pv 1) (pa_cons (pe_gc (v := .ref C_Parcel) (by rfl) ⟨_, k_Parcel.at_, rfl⟩) pa_nil))))) (pw_or (pt_cmpR op_ne (pe_mG0 (pv 0) c_Parcel_kind.cl c_Parcel_kind.me c_Parcel_kind.fn hgd (hr.mono (by decide)) c_Parcel_kind.b .nil VS.pass0) (pe_mG0 (pv 1) c_Parcel_kind.cl c_Parcel_kind.me c_Parcel_kind.fn hgd (hr.mono (by decide)) c_Parcel_kind.b .nil VS.pass0) (nomark _)) (pw_or1 (pt_cmpR (op_neP hr hsys) (pe_mG0 (pv 0) c_Parcel_numbers.cl c_Parcel_numbers.me c_Parcel_numbers.fn hgd (hr.mono (by decide)) c_Parcel_numbers.b .nil VS.pass0) (pe_mG0 (pv 1) c_Parcel_numbers.cl c_Parcel_numbers.me c_Parcel_numbers.fn hgd (hr.mono (by decide)) c_Parcel_numbers.b .nil VS.pass0) (nomark _)))))) (pss_one (ps_ret pe_bl))
        pss_nil)
        (pss_one (ps_ret (pe_mG (pv 0) c_Parcel_lies_like.cl c_Parcel_lies_like.me c_Parcel_lies_like.fn hgd (hr.mono (by decide)) c_Parcel_lies_like.b .nil VS.pass0 (pa_cons (pv 1) pa_nil))))), ?_⟩
      (try dsimp only [cxOf, List.map])
      show VX _ _ [_, _] _ _
      walk_at "ga"
      rcases h with ⟨t, ot, kt, q⟩ | ⟨nm', x, y, z, wl', wt', br', mk', rfl, g', q⟩
      · refine rc_isiO ot kt ?_
        walk_at "ga"
        exact q
      · refine rc_isiO (.i .v k_Parcel.ins) k_Parcel.ins.me ?_
        walk_at "ga"
        refine ⟨nm, a, b, c, wl, wt, br, mk, rfl, ?_⟩
        walk_at "ga"
        refine ⟨nm', x, y, z, wl', wt', br', mk', rfl, ?_⟩
        walk_at "ga"
        refine ⟨nm, a, b, c, wl, wt, br, mk, rfl, ?_⟩
        walk_at "ga"
        refine ⟨nm', x, y, z, wl', wt', br', mk', rfl, ?_⟩
        have o1 := nums_ok g
        have o2 := nums_ok g'
        walk_at "ga"
        refine rv_neP .v .v o1.sh.p o2.sh.p o1.s o2.s ?_
        rw [nums_eqv]
        unfold pceq at q
        walk_at "ga"
        refine ⟨fun h => ?_, fun h => ?_⟩
        · have h : (!decide (wl = wl' ∧ wt = wt' ∧ br = br' ∧ mk = mk')) = true := h
          rw [Bool.not_eq_true'] at h
          rw [h, Bool.false_and] at q
          walk_at "ga"
          exact q
        · have h : (!decide (wl = wl' ∧ wt = wt' ∧ br = br' ∧ mk = mk')) = false := h
          rw [Bool.not_eq_false'] at h
          rw [h, Bool.true_and] at q
          walk_at "ga"
          exact ⟨nm, a, b, c, wl, wt, br, mk, nm', x, y, z, wl', wt', br', mk', rfl, g, q⟩) only [↓VS.box]
end
end LW
namespace LW
open PySem L2 C8 PySem.Spec PyProof.Rows VS
/-! ### a heap and one that is alike -/
def p_Hp_len (CH CP CS : Addr) : Pt := fun ds S G _ => ∃ (h l : Addr) (ps : List Pc), ds = [.ref h] ∧ HpS S CH CP CS h l ps ∧ ps.length ≤ 12 ∧ G (.int (ps.length : Nat)) S
def p_Hp_eq74 (CH CP CS : Addr) : Pt := fun ds S G _ => ∃ (h l h' l' : Addr) (ps : List Pc), ds = [.ref h, .ref h'] ∧ HpS S CH CP CS h l ps ∧ HpS S CH CP CS h' l' ps ∧ (∀ p ∈ ps, p.g) ∧ ps.length ≤ 12 ∧ G (.bl true) S
theorem lies_self (a b c : Int) (up : Bool) : lies a b c a b c up = true := by
  have m : D.tup ([0, 1, 2].map D.int) ∈ lsD a b c a b c := List.mem_map.mpr ⟨[0, 1, 2], List.mem_filter.mpr ⟨by decide, decide_eq_true rfl⟩, rfl⟩
  unfold lies
  split
  · rw [Bool.not_eq_true', List.isEmpty_eq_false_iff]
    exact List.ne_nil_of_mem (List.mem_map.mpr ⟨_, List.mem_filter.mpr ⟨m, rfl⟩, rfl⟩)
  · rw [Bool.not_eq_true', List.isEmpty_eq_false_iff]
    exact List.ne_nil_of_mem m
theorem pceq_self (a b c wl wt br : Int) (mk : List Str) : pceq a b c wl wt br mk a b c wl wt br mk = true := by
  unfold pceq
  rw [lies_self, decide_eq_true ⟨rfl, rfl, rfl, rfl⟩]
  rfl
theorem goD2_self {K : PySem.W.Frag} {CP CS : Addr} {F : D → Sto → Prop} {S : Sto} (q : F (.bl true) S) : ∀ ps : List Pc, (∀ p ∈ ps, p.g) → goD2 CP (p_Pc_eq K CP CS) F S (ps.map (Pc.d CP CS)) (ps.map (Pc.d CP CS))
  | [], _ => q
  | p :: ps, h => by
    have ih := goD2_self (K := K) (CP := CP) (CS := CS) q ps fun x hx => h x (List.mem_cons_of_mem _ hx)
    have g := h p List.mem_cons_self
    refine ⟨⟨_, _, rfl, rfl⟩, fun _ => ih, p.nm, p.a, p.b, p.c, p.wl, p.wt, p.br, p.mk, _, rfl, g, .inr ⟨_, _, _, _, _, _, _, _, rfl, g, ?_⟩⟩
    exact ⟨true, by rw [pceq_self], rfl, fun _ => ih, fun z => by cases z⟩
section
variable {P : Program} {w : World} {K : PySem.W.Frag} {mg : Str → Option Value} {base : Heap}
theorem ok_Heap___len__ {f : Addr} {fd : FuncData} {C_Measure C_Sides C_Parcel C_Heap C_NoNumber C_NoSize C_NoMeasure C_NoSide C_NoOrder C_NoSides : Addr}
    (F : Fd K "__len__" "Heap.__len__" s_Heap___len__ [] f fd) (T : Tx K mg) (hsys : SysOk base)
    (k_Heap : Kl_Heap K mg C_Heap) :
    FnG P w K mg base (L2.CX P w) 1 f fd a_Heap___len__ (spOf K (p_Hp_len C_Heap C_Parcel C_Sides)) := by
  refine VS.unbox ?_
  simp (disch := with_unfolding_all
    have kc_Heap := k_Heap.ins.cl
    have ka_Heap_held := k_Heap.a_held
    refine fn_val F sc_Heap___len__ (fun ds S G Y h => ?_) (fun cdv A hgd outer s H E hr px tk po ds S G Y h => ?_)
    · obtain ⟨hh, l, ps, rfl, _⟩ := h
      rfl
    · obtain ⟨hh, l, ps, rfl, ⟨h1, h2⟩, hl, q⟩ := h
      refine ⟨_, (pss_one (ps_ret (pe_callB c_len (by rfl) T.b_len (by decide +kernel) (pa_cons (pe_fld (pv 0) rfl) pa_nil)))), ?_⟩
      (try dsimp only [cxOf, List.map])
      show VX _ _ [_] _ _
      walk_at "gr"
      rw [List.length_map]
      exact q) only [↓VS.box]
theorem ok_Heap___eq__ {f : Addr} {fd : FuncData} {C_Measure C_Sides C_Parcel C_Heap C_NoNumber C_NoSize C_NoMeasure C_NoSide C_NoOrder C_NoSides : Addr} {f_Heap_names f_Parcel___eq__ : Addr} {g_Heap_names g_Parcel___eq__ : FuncData}
    (F : Fd K "__eq__" "Heap.__eq__" s_Heap___eq__ [] f fd) (T : Tx K mg) (hsys : SysOk base)
    (c_Heap_names : Mf P w K mg base 2 C_Heap "names" "Heap.names" s_Heap_names [] a_Heap_names (p_Hp_names C_Heap C_Parcel C_Sides) f_Heap_names g_Heap_names)
    (c_Parcel___eq__ : Mf P w K mg base 8 C_Parcel "__eq__" "Parcel.__eq__" s_Parcel___eq__ [] a_Parcel___eq__ (p_Pc_eq K C_Parcel C_Sides) f_Parcel___eq__ g_Parcel___eq__)
    (k_Heap : Kl_Heap K mg C_Heap)
    (k_Parcel : Kl_Parcel K mg C_Parcel)
    (k_Sides : Kl_Sides K mg C_Sides) :
    FnG P w K mg base (L2.CX P w) 11 f fd a_Heap___eq__ (spOf K (p_Hp_eq74 C_Heap C_Parcel C_Sides)) := by
  refine VS.unbox ?_
  simp (disch := with_unfolding_all
    have kc_Heap := k_Heap.ins.cl
    have ka_Heap_held := k_Heap.a_held
    have kc_Parcel := k_Parcel.ins.cl
    have ka_Parcel_called := k_Parcel.a_called
    have ka_Parcel_outside := k_Parcel.a_outside
    have ka_Parcel_thick := k_Parcel.a_thick
    have ka_Parcel_heavy := k_Parcel.a_heavy
    have ka_Parcel_strong := k_Parcel.a_strong
    have ka_Parcel_marks := k_Parcel.a_marks
    have kc_Sides := k_Sides.ins.cl
    have ka_Sides_three := k_Sides.a_three
    refine fn_val F sc_Heap___eq__ (fun ds S G Y h => ?_) (fun cdv A hgd outer s H E hr px tk po ds S G Y h => ?_)
    · obtain ⟨hh, l, h2, l2, ps, rfl, _⟩ := h
      rfl
    · obtain ⟨hh, l, h2, l2, ps, rfl, s1, s2, g, hl, q⟩ := h
      refine ⟨_, (pss_one (ps_ret (pe_and (pe_callB c_isiZ (by rfl) T.b_isinstance (by decide +kernel) (pa_cons (pv 1) (pa_cons (pe_gc (v := .ref C_Heap) (by rfl) ⟨_, k_Heap.at_, rfl⟩) pa_nil))) (pe_and (pe_cmpR (op_eqP hr hsys) (pe_mG0 (pv 0) c_Heap_names.cl c_Heap_names.me c_Heap_names.fn hgd (hr.mono (by decide)) c_Heap_names.b .nil VS.pass0) (pe_mG0 (pv 1) c_Heap_names.cl c_Heap_names.me c_Heap_names.fn hgd (hr.mono (by decide)) c_Heap_names.b .nil VS.pass0) (nomark _)) (pe_one (pe_cmpR (op_eqOL c_Parcel___eq__.fn hgd (hr.mono (by decide)) c_Parcel___eq__.me.at_ c_Parcel___eq__.me.fn c_Parcel___eq__.b) (pe_fld (pv 0) rfl) (pe_fld (pv 1) rfl) (nomark _))))))), ?_⟩
      (try dsimp only [cxOf, List.map])
      show VX _ _ [_, _] _ _
      have a1 := s1.1
      have a2 := s2.1
      walk_at "gr"
      refine rc_isiO (.i (.c s2.1) k_Heap.ins) k_Heap.ins.me ?_
      walk_at "gr"
      refine ⟨hh, l, ps, rfl, s1, hl, ?_⟩
      walk_at "gr"
      refine ⟨h2, l2, ps, rfl, s2, hl, ?_⟩
      have an : ∀ z ∈ ps.map Pc.nm, Asc 19 z := fun z hz => by
        obtain ⟨p, hp, rfl⟩ := List.mem_map.mp hz
        exact (g p hp).asc.mono (by decide)
      refine rv_eqStrs .v .v an an (by rw [List.length_map]; omega) (by rw [List.length_map]; omega) ?_
      rw [decide_eq_true rfl]
      walk_at "gr"
      exact rv_eqOL (.c s1.2) (.c s2.2) (.inr ⟨rfl, goD2_self q ps g⟩)) only [↓VS.box]
end
end LW
namespace LW
open PySem L2 C8 PySem.Spec PyProof.Rows VS
/-! ### the law's units: one to five, falling -/
theorem falls_of : ∀ {us : List (Str × Int)}, (us.map (·.2)).Pairwise (· > ·) → falls us = true
  | [], _ => rfl
  | [_], _ => rfl
  | a :: b :: us, h => by
    rw [List.map_cons, List.pairwise_cons] at h
    have ih := falls_of (us := b :: us) h.2
    have hb : b.2 < a.2 := h.1 b.2 (by rw [List.map_cons]; exact List.mem_cons_self)
    show (decide (b.2 < a.2) && falls (b :: us)) = true
    rw [ih, decide_eq_true hb]
    rfl
/-- names and points make units -/
theorem ug_zip {zs : List Str} {ns : List Int} (hl : zs.length = ns.length) (h1 : 1 ≤ ns.length ∧ ns.length ≤ 5) (hz : ∀ z ∈ zs, Nm z ∧ z ∉ kepts) (nd : zs.Nodup) (hn : ∀ n ∈ ns, 1 ≤ n ∧ n ≤ 100000) (rise : ns.Pairwise (· < ·)) : Ug (zs.zip ns.reverse) where
  l := by rw [List.length_zip, List.length_reverse]; omega
  u := fun u hu => by
    obtain ⟨z, n⟩ := u
    obtain ⟨m1, m2⟩ := List.of_mem_zip hu
    obtain ⟨a, b⟩ := hz z m1
    exact ⟨a.ok, a.1.1, b, hn n (List.mem_reverse.mp m2)⟩
  d := by rw [List.map_fst_zip (by rw [List.length_reverse]; omega)]; exact nd
  f := falls_of (by
    rw [List.map_snd_zip (by rw [List.length_reverse]; omega), List.pairwise_reverse]
    exact rise)
theorem zip_uD (zs : List Str) (ns : List Int) : ((zs.map D.str).zip (ns.map D.int).reverse).map prT = (zs.zip ns.reverse).map uD := by
  rw [← List.map_reverse, List.zip_map, List.map_map]
  rfl
def cB (i : Nat) : Int := 1000 * 12 ^ i
theorem cB_ok : ∀ i, i < 4 → cB i * 12 ≤ cB (i + 1) ∧ 1000 ≤ cB i ∧ cB i ≤ 1728000 := by decide
def smD : D → Bool
  | .int i => decide (i < 100000)
  | _ => false
theorem cut4 (ns : List Int) : cutD (ns.map D.int) none (some 4) = (ns.take (min 4 ns.length)).map D.int := by
  show ((ns.map D.int).drop 0).take (HT.sIx (ns.map D.int).length (ns.map D.int).length (some ((4 : Nat) : Int)) - 0) = _
  rw [HT.sIx_nat, List.drop_zero, Nat.sub_zero, List.length_map, List.map_take]
end LW
namespace LW
open PySem L2 C8 PySem.Spec PyProof.Rows VS
/-! ### the law's units, otherwise named -/
def p__law_units74 : Pt := fun ds S G _ => ∃ (p : Addr) (n : Int), ds = [.ref p] ∧ Pu S p n ∧ n < 700000 ∧ ∀ us S', Ug us → (∀ u ∈ us, u.1.length ≤ 7) → Pu S' p (n + 40) → Off p S S' → G (.lst (us.map uD)) S'
def uW75 : List Str := Txt.split "ell thumb in box parcel measure alone top upright one by points" " "
theorem uW75_ok : uW75.length = 12 ∧ ∀ z ∈ uW75, (Nm z ∧ z ∉ kepts) ∧ z.length ≤ 7 := by
  have h : (uW75.length == 12 && uW75.all fun z => (((decide (z.length ≤ 8) && z.cps.toList.all lcN) && decide (1 ≤ z.length)) && decide (z ∉ kepts)) && decide (z.length ≤ 7)) = true := by decide +kernel
  rw [Bool.and_eq_true, beq_iff_eq, List.all_eq_true] at h
  refine ⟨h.1, fun z hz => ?_⟩
  have := h.2 z hz
  rw [Bool.and_eq_true, Bool.and_eq_true, Bool.and_eq_true, decide_eq_true_eq, decide_eq_true_eq, decide_eq_true_eq] at this
  exact ⟨⟨⟨Lw.lit this.1.1.1, this.1.1.2⟩, this.1.2⟩, this.2⟩
theorem uW75_nd : uW75.Nodup := by decide +kernel
def gn0 (f : Int) (k : Nat) : Str := (uW75[((f + 5 * (k : Int)) % 12).toNat]?).getD Str.empty
def gn1 (f : Int) (stem : Str) (k : Nat) : Str := cutS stem none (some (1 + (f + 3 * (k : Int)) % 7))
theorem gn0_nd {f : Int} {n : Nat} (hn : n ≤ 5) : ((List.range n).map (gn0 f)).Nodup := nd_rng fun k j h1 h2 e => by
  unfold gn0 at e
  have b0 : 0 ≤ (f + 5 * (k : Int)) % 12 := Int.emod_nonneg _ (by decide)
  have b1 : (f + 5 * (k : Int)) % 12 < 12 := Int.emod_lt_of_pos _ (by decide)
  have c0 : 0 ≤ (f + 5 * (j : Int)) % 12 := Int.emod_nonneg _ (by decide)
  have c1 : (f + 5 * (j : Int)) % 12 < 12 := Int.emod_lt_of_pos _ (by decide)
  have lk : ((f + 5 * (k : Int)) % 12).toNat < uW75.length := by rw [uW75_ok.1]; omega
  have lj : ((f + 5 * (j : Int)) % 12).toNat < uW75.length := by rw [uW75_ok.1]; omega
  rw [List.getElem?_eq_getElem lk, List.getElem?_eq_getElem lj] at e
  have := (List.getElem_inj uW75_nd).mp (show uW75[_] = uW75[_] from e)
  omega
theorem gn1_len {f : Int} {stem : Str} (l7 : stem.length = 7) (k : Nat) : ((gn1 f stem k).length : Int) = 1 + (f + 3 * (k : Int)) % 7 := by
  have b0 : 0 ≤ (f + 3 * (k : Int)) % 7 := Int.emod_nonneg _ (by decide)
  have b1 : (f + 3 * (k : Int)) % 7 < 7 := Int.emod_lt_of_pos _ (by decide)
  unfold gn1
  obtain ⟨i, hi⟩ := Int.eq_ofNat_of_zero_le (a := 1 + (f + 3 * (k : Int)) % 7) (by omega)
  rw [hi, cut_len, l7]
  omega
theorem gn1_nd {f : Int} {stem : Str} {n : Nat} (l7 : stem.length = 7) (hn : n ≤ 5) : ((List.range n).map (gn1 f stem)).Nodup := nd_rng fun k j h1 h2 e => by
  have e1 := gn1_len (f := f) l7 k
  have e2 := gn1_len (f := f) l7 j
  rw [e] at e1
  omega
theorem gn1_hd {f : Int} {stem : Str} {c : Nat} (hc : stem.cps.toList.head? = some c) (l7 : stem.length = 7) (k : Nat) : (gn1 f stem k).cps.toList.head? = some c := by
  have b0 : 0 ≤ (f + 3 * (k : Int)) % 7 := Int.emod_nonneg _ (by decide)
  unfold gn1
  obtain ⟨i, hi⟩ := Int.eq_ofNat_of_zero_le (a := 1 + (f + 3 * (k : Int)) % 7) (by omega)
  rw [hi]
  show ((stem.cps.toList.drop 0).take (HT.sIx stem.length stem.length (some (i : Int)) - 0)).head? = _
  rw [HT.sIx_nat, List.drop_zero, l7]
  have i1 : 1 ≤ min i 7 - 0 := by omega
  cases hs : stem.cps.toList with
  | nil => rw [hs] at hc; cases hc
  | cons x xs =>
    rw [hs] at hc
    obtain ⟨m, hm⟩ : ∃ m, min i 7 - 0 = m + 1 := ⟨min i 7 - 0 - 1, by omega⟩
    rw [hm]
    exact hc
/-- a kept word gets a letter more -/
def uq (z : Str) : Str := if z ∈ kepts then z ++ "q" else z
theorem uq_kept : ∀ z, uq z ∉ kepts := fun z => by
  unfold uq
  split
  · rename_i h
    have : ∀ z ∈ kepts, z ++ "q" ∉ kepts := by decide +kernel
    exact this z h
  · assumption
theorem uq_nd {zs : List Str} {L : Nat} (h : zs.Nodup) (hl : ∀ z ∈ zs, z.length = L) : (zs.map uq).Nodup := by
  rw [List.nodup_iff_pairwise_ne, List.pairwise_map]
  rw [List.nodup_iff_pairwise_ne] at h
  refine h.imp_of_mem fun {a b} ha hb ne e => ?_
  have la := hl a ha
  have lb := hl b hb
  unfold uq at e
  have l1 : ("q" : Str).length = 1 := by decide
  split at e <;> split at e
  · have e := congrArg (fun z : Str => z.cps.toList) e
    simp only [tlA] at e
    exact ne (PySem.Str.ext' (Array.toList_inj.mp (List.append_cancel_right e)))
  · have := congrArg Str.length e
    rw [len_add] at this
    omega
  · have := congrArg Str.length e
    rw [len_add] at this
    omega
  · exact ne e
theorem mulq_one (b : Bool) : Txt.mul "q" (if b then 1 else 0) = if b then ("q" : Str) else "" := by cases b <;> decide +kernel
theorem mulq_ok (b : Bool) : MulOk "q" (if b then 1 else 0) := by unfold MulOk; cases b <;> decide +kernel
theorem uq_eq (z : Str) : z ++ (if decide (z ∈ kepts) = true then ("q" : Str) else "") = uq z := by
  unfold uq
  by_cases h : z ∈ kepts
  · rw [decide_eq_true h, if_pos rfl, if_pos h]
  · rw [decide_eq_false h, if_neg (by decide), if_neg h]
    exact PySem.Str.append_empty _
def uqD : D → D
  | .str z => .str (uq z)
  | _ => .non
/-- names ahead of the last letter -/
structure Fn75 (m : Nat) (zs : List Str) : Prop where
  l : zs.length = m
  n : zs.Nodup
  z : ∀ z ∈ zs, Nm z ∧ z.length ≤ 7
  k : (∀ z ∈ zs, z ∉ kepts) ∨ ∃ L, ∀ z ∈ zs, z.length = L
theorem Fn75.ok {m : Nat} {zs : List Str} (h : Fn75 m zs) : (zs.map uq).length = m ∧ (zs.map uq).Nodup ∧ ∀ z ∈ zs.map uq, Nm z ∧ z ∉ kepts := by
  refine ⟨by rw [List.length_map]; exact h.l, ?_, fun y hy => ?_⟩
  · rcases h.k with k | ⟨L, k⟩
    · have e : zs.map uq = zs := by
        conv => rhs; rw [← List.map_id zs]
        exact List.map_congr_left fun z hz => if_neg (k z hz)
      rw [e]
      exact h.n
    · exact uq_nd h.n k
  · obtain ⟨z, hz, rfl⟩ := List.mem_map.mp hy
    refine ⟨?_, uq_kept z⟩
    obtain ⟨⟨a, b⟩, c⟩ := h.z z hz
    unfold uq
    split
    · have l1 : ("q" : Str).length = 1 := by decide
      refine ⟨?_, by rw [len_add]; omega⟩
      exact (Lw.add (n := 7) (m := 1) ⟨c, a.2⟩ (Lw.lit (by decide +kernel))).mono (by decide)
    · exact ⟨a, b⟩
theorem uq_l7 {z : Str} (h : z.length ≤ 7) : (uq z).length ≤ 7 := by
  unfold uq
  split
  · rename_i k
    have : ∀ z ∈ kepts, (z ++ "q").length ≤ 7 := by decide +kernel
    exact this z k
  · exact h
section
variable {P : Program} {w : World} {K : PySem.W.Frag} {mg : Str → Option Value} {base : Heap}
theorem ok__law_units {f : Addr} {fd : FuncData} {C_Measure C_Sides C_Parcel C_Heap C_NoNumber C_NoSize C_NoMeasure C_NoSide C_NoOrder C_NoSides : Addr} {f__law_take : Addr} {g__law_take : FuncData}
    (F : Fd K "_law_units" "_law_units" s__law_units [] f fd) (T : Tx K mg) (hsys : SysOk base)
    (c__law_take : Cf P w K mg base (L2.CX P w) 1 "_law_take" s__law_take [] a__law_take p__law_take f__law_take g__law_take) :
    FnG P w K mg base (L2.CX P w) 2 f fd a__law_units (spOf K p__law_units74) := by
  refine VS.unbox ?_
  simp (disch := with_unfolding_all
    refine fn_val F sc__law_units (fun ds S G Y h => ?_) (fun cdv A hgd outer s H E hr px tk po ds S G Y h => ?_)
    · obtain ⟨p, n, rfl, _⟩ := h
      rfl
    · obtain ⟨p, n, rfl, hp, hn, q⟩ := h
      refine ⟨_, (pss_cons (ps_set (i := 1) sc__law_units.nd rfl (Or.inl rfl) (pe_lst (pa_cons (pe_ix ix_list (pe_lst (pa_cons pe_int (pa_cons (pe_op op_add pe_int (pe_cG c__law_take.fn hgd (hr.mono (by decide)) (by rfl) c__law_take.mg c__law_take.kp c__law_take.b .nil VS.pass0 (pa_cons (pv 0) (pa_cons pe_int pa_nil)))) (pa_cons (pe_op op_add pe_int (pe_cG c__law_take.fn hgd (hr.mono (by decide)) (by rfl) c__law_take.mg c__law_take.kp c__law_take.b .nil VS.pass0 (pa_cons (pv 0) (pa_cons pe_int pa_nil)))) pa_nil)))) (pe_cG c__law_take.fn hgd (hr.mono (by decide)) (by rfl) c__law_take.mg c__law_take.kp c__law_take.b .nil VS.pass0 (pa_cons (pv 0) (pa_cons pe_int pa_nil))) (fun _ _ => rfl)) pa_nil)))
        (pss_cons (ps_for po rfl (pi_range1 (by rfl) T.b_range (pa_cons (pe_cG c__law_take.fn hgd (hr.mono (by decide)) (by rfl) c__law_take.mg c__law_take.kp c__law_take.b .nil VS.pass0 (pa_cons (pv 0) (pa_cons pe_int pa_nil))) pa_nil)) (pg_name (i := 2) sc__law_units.nd rfl (Or.inl rfl))
        (pss_cons (ps_set (i := 3) sc__law_units.nd rfl (Or.inl rfl) (pe_lst (pa_cons (pe_op op_mulW (pe_ix ix_list (pv 1) (pe_un un_neg pe_int) (fun _ _ => rfl)) (pe_op op_add pe_int (pe_cG c__law_take.fn hgd (hr.mono (by decide)) (by rfl) c__law_take.mg c__law_take.kp c__law_take.b .nil VS.pass0 (pa_cons (pv 0) (pa_cons pe_int pa_nil))))) (pa_cons (pe_op op_add (pe_op op_add (pe_ix ix_list (pv 1) (pe_un un_neg pe_int) (fun _ _ => rfl)) pe_int) (pe_cG c__law_take.fn hgd (hr.mono (by decide)) (by rfl) c__law_take.mg c__law_take.kp c__law_take.b .nil VS.pass0 (pa_cons (pv 0) (pa_cons pe_int pa_nil)))) pa_nil))))
        (pss_one (ps_expr (pe_bm PySem.F.plainAttrs_list PySem.F.slot_list_append PySem.F.type_list_append mt_append (pv 1) (pa_cons (pe_ix ix_list (pv 3) (pe_cG c__law_take.fn hgd (hr.mono (by decide)) (by rfl) c__law_take.mg c__law_take.kp c__law_take.b .nil VS.pass0 (pa_cons (pv 0) (pa_cons pe_int pa_nil))) (fun _ _ => rfl)) pa_nil))))))
        (pss_cons (ps_setLc (i := 1) (own := [("_law_each", 14)]) rfl sc__law_units.nd rfl rfl (sw_true rfl rfl rfl (by decide +kernel)) (pi_list (pv 1)) (blkOk_by (own := [("_law_each", 14)]) (N := n__law_units) (sc := defScope s__law_units) (by decide +kernel)) (fun _ _ _ _ _ => (pg_name (i := 14) sc__law_units.nd rfl (Or.inl rfl))) (fun _ _ _ _ _ => (pts_one (pt_cmpR op_lt (pv 14) pe_int (nomark _)))) (fun _ _ _ _ _ => (pv 14)))
        (pss_cons (ps_if (pt_cmpR op_eq (pe_cG c__law_take.fn hgd (hr.mono (by decide)) (by rfl) c__law_take.mg c__law_take.kp c__law_take.b .nil VS.pass0 (pa_cons (pv 0) (pa_cons pe_int pa_nil))) pe_int (nomark _)) (pss_one (ps_set (i := 1) sc__law_units.nd rfl (Or.inl rfl) (pe_op op_cat (pe_slice sl_list (pv 1) po_none (po_some pe_int)) (pe_lst (pa_cons pe_int pa_nil)))))
        pss_nil)
        (pss_cons (ps_set (i := 4) sc__law_units.nd rfl (Or.inr rfl) pe_str)
        (pss_cons (ps_set (i := 5) sc__law_units.nd rfl (Or.inr rfl) (pe_cG c__law_take.fn hgd (hr.mono (by decide)) (by rfl) c__law_take.mg c__law_take.kp c__law_take.b .nil VS.pass0 (pa_cons (pv 0) (pa_cons pe_int pa_nil))))
        (pss_cons (ps_set (i := 6) sc__law_units.nd rfl (Or.inr rfl) (pe_op op_addS (pe_ix ix_str pe_str (pe_cG c__law_take.fn hgd (hr.mono (by decide)) (by rfl) c__law_take.mg c__law_take.kp c__law_take.b .nil VS.pass0 (pa_cons (pv 0) (pa_cons pe_int pa_nil))) (fun _ _ => rfl)) (pe_m1 PySem.F.slot_str_join PySem.F.type_str_join m_join pe_str (pe_lc (own := [("_law_k", 2)]) rfl sc__law_units.nd (pi_range1 (by rfl) T.b_range (pa_cons pe_int pa_nil)) (blkOk_by (own := [("_law_k", 2)]) (N := n__law_units) (sc := defScope s__law_units) (by decide +kernel)) (fun _ _ _ _ _ => (pg_name (i := 2) sc__law_units.nd rfl (Or.inl rfl))) (fun _ _ _ _ _ => pts_nil) (fun _ _ _ _ _ => (pe_ix ix_str (pv 4) (pe_cG c__law_take.fn hgd (hr.mono (by decide)) (by rfl) c__law_take.mg c__law_take.kp c__law_take.b .nil VS.pass0 (pa_cons (pv 0) (pa_cons pe_int pa_nil))) (fun _ _ => rfl)))))))
        (pss_cons (ps_set (i := 7) sc__law_units.nd rfl (Or.inl rfl) (pe_cG c__law_take.fn hgd (hr.mono (by decide)) (by rfl) c__law_take.mg c__law_take.kp c__law_take.b .nil VS.pass0 (pa_cons (pv 0) (pa_cons pe_int pa_nil))))
        (pss_cons (ps_set (i := 8) sc__law_units.nd rfl (Or.inr rfl) (pe_cG c__law_take.fn hgd (hr.mono (by decide)) (by rfl) c__law_take.mg c__law_take.kp c__law_take.b .nil VS.pass0 (pa_cons (pv 0) (pa_cons pe_int pa_nil))))
        (pss_cons (ps_set (i := 9) sc__law_units.nd rfl (Or.inl rfl) (pe_cG c__law_take.fn hgd (hr.mono (by decide)) (by rfl) c__law_take.mg c__law_take.kp c__law_take.b .nil VS.pass0 (pa_cons (pv 0) (pa_cons pe_int pa_nil))))
        (pss_cons (ps_set (i := 10) sc__law_units.nd rfl (Or.inr rfl) (pe_m1 PySem.F.slot_str_split PySem.F.type_str_split m_split pe_str pe_str))
        (pss_cons (ps_set (i := 11) sc__law_units.nd rfl (Or.inl rfl) (pe_callB c_len (by rfl) T.b_len (by decide +kernel) (pa_cons (pv 1) pa_nil)))
        (pss_cons (ps_setLc (i := 12) (own := [("_law_k", 2)]) rfl sc__law_units.nd rfl rfl (sw_true rfl rfl rfl (by decide +kernel)) (pi_range1 (by rfl) T.b_range (pa_cons (pv 11) pa_nil)) (blkOk_by (own := [("_law_k", 2)]) (N := n__law_units) (sc := defScope s__law_units) (by decide +kernel)) (fun _ _ _ _ _ => (pg_name (i := 2) sc__law_units.nd rfl (Or.inl rfl))) (fun _ _ _ _ _ => pts_nil) (fun _ _ _ _ _ => (pe_ix (kI (K := K) (r := rIxL) ix_list) (pv 10) (pe_op op_mod (pe_op op_add (pv 5) (pe_op op_mulW pe_int (pv 2))) pe_int) (fun _ _ => rfl))))
        (pss_cons (ps_if (pt_cmpR op_eq (pv 7) pe_int (nomark _)) (pss_one (ps_setLc (i := 12) (own := [("_law_k", 2)]) rfl sc__law_units.nd rfl rfl (sw_true rfl rfl rfl (by decide +kernel)) (pi_range1 (by rfl) T.b_range (pa_cons (pv 11) pa_nil)) (blkOk_by (own := [("_law_k", 2)]) (N := n__law_units) (sc := defScope s__law_units) (by decide +kernel)) (fun _ _ _ _ _ => (pg_name (i := 2) sc__law_units.nd rfl (Or.inl rfl))) (fun _ _ _ _ _ => pts_nil) (fun _ _ _ _ _ => (pe_slice sl_str (pv 6) po_none (po_some (pe_op op_add pe_int (pe_op op_mod (pe_op op_add (pv 5) (pe_op op_mulW pe_int (pv 2))) pe_int)))))))
        pss_nil)
        (pss_cons (ps_if (pt_cmpR op_eq (pv 7) pe_int (nomark _)) (pss_cons (ps_set (i := 6) sc__law_units.nd rfl (Or.inr rfl) (pe_slice sl_str (pv 6) po_none (po_some (pv 9))))
        (pss_one (ps_setLc (i := 12) (own := [("_law_k", 2)]) rfl sc__law_units.nd rfl rfl (sw_true rfl rfl rfl (by decide +kernel)) (pi_range1 (by rfl) T.b_range (pa_cons (pv 11) pa_nil)) (blkOk_by (own := [("_law_k", 2)]) (N := n__law_units) (sc := defScope s__law_units) (by decide +kernel)) (fun _ _ _ _ _ => (pg_name (i := 2) sc__law_units.nd rfl (Or.inl rfl))) (fun _ _ _ _ _ => pts_nil) (fun _ _ _ _ _ => (pe_op op_addS (pe_op op_addS (pe_slice sl_str (pv 6) po_none (po_some (pv 8))) (pe_ix ix_str (pv 4) (pe_op op_mod (pe_op op_add (pv 5) (pe_op op_mulW pe_int (pv 2))) pe_int) (fun _ _ => rfl))) (pe_slice sl_str (pv 6) (po_some (pv 8)) po_none))))))
        pss_nil)
        (pss_cons (ps_set (i := 13) sc__law_units.nd rfl (Or.inr rfl) (pe_m1 PySem.F.slot_str_split PySem.F.type_str_split m_split pe_str pe_str))
        (pss_cons (ps_setLc (i := 12) (own := [("_law_word", 15)]) rfl sc__law_units.nd rfl rfl (sw_true rfl rfl rfl (by decide +kernel)) (pi_list (pv 12)) (blkOk_by (own := [("_law_word", 15)]) (N := n__law_units) (sc := defScope s__law_units) (by decide +kernel)) (fun _ _ _ _ _ => (pg_name (i := 15) sc__law_units.nd rfl (Or.inl rfl))) (fun _ _ _ _ _ => pts_nil) (fun _ _ _ _ _ => (pe_op op_addS (pv 15) (pe_op op_mulS pe_str (pe_callTy c_int1 (by rfl) T.b_int (by decide +kernel) (pa_cons (pe_cmpR (kO (K := K) (r := (fun K => rIn K false)) op_in_seq) (pv 15) (pv 13) (by rfl)) pa_nil))))))
        (pss_one (ps_ret (VS.pe_zipRev rfl (by rfl) T.b_list (by decide +kernel) (by rfl) T.b_zip (by rfl) T.b_reversed (pv 12) (pv 1))))))))))))))))))))), ?_⟩
      (try dsimp only [cxOf, List.map])
      show VX _ _ [_, _, _, _, _, _, _, _, _, _, _, _, _, _, _, _] _ _
      have sz := szl
      walk_at "gr"
      refine ve_lstc ?_
      walk_at "gr"
      refine ve_lst ?_
      walk_at "gr"
      intro t1 S1 t10 t11 h1 o1
      walk_at "gr"
      intro t2 S2 t20 t21 h2 o2
      walk_at "gr"
      intro t3 S3 t30 t31 h3 o3
      obtain ⟨x, ea, a, rfl, ha⟩ := pick (fun d => ∃ a : Int, d = .int a ∧ 1 ≤ a ∧ a ≤ 1000) (xs := [.int 1, .int (1 + t1), .int (1 + t2)]) t30 t31 (ac ⟨_, rfl, by omega⟩ (ac ⟨_, rfl, by omega⟩ (ac ⟨_, rfl, by omega⟩ an)))
      refine rv_ixL .v ea ?_
      have o3 := (o1.trans o2).trans o3
      clear ea h1 h2 hp o1 o2
      walk_at "gr"
      intro fl hfl
      have npf := h3.ne hfl
      have hS : S fl = none := by rw [← o3 fl (Ne.symm npf)]; exact hfl
      have h4 : Pu (put S3 fl (.lst [.int a])) p (n + 3) := (h3.put hfl).mono (by omega)
      have c4 : (put S3 fl (.lst [.int a])) fl = some (.lst ([].map D.int ++ [.int a])) := put_same
      have o4 : ∀ q, q ≠ p → q ≠ fl → (put S3 fl (.lst [.int a])) q = S q := fun q n1 n2 => by rw [put_ne n2]; exact o3 q n1
      show VG _ _ _ _ (put S3 fl (.lst [.int a])) _
      generalize put S3 fl (.lst [.int a]) = S4 at h4 c4 o4 ⊢
      clear h3 o3 hfl t10 t11 t20 t21 t30 t31
      walk_at "gr"
      refine vx_for (vi_rng1 ?_)
      walk_at "gr"
      intro m S5 m0 m1 h5 o5
      have c5 : S5 fl = some (.lst ([].map D.int ++ [.int a])) := by rw [o5 fl (Ne.symm npf)]; exact c4
      have o5 : ∀ q, q ≠ p → q ≠ fl → S5 q = S q := fun q n1 n2 => by rw [o5 q n1]; exact o4 q n1 n2
      clear h4 c4 o4
      walk_at "gr"
      refine ⟨m, rfl, by constructor <;> omega, fun i ρ2 S2 => ∃ ms x x2 x3, ρ2 = [some (.ref p), some (.ref fl), x2, x3, none, none, none, none, none, none, none, none, none, none, none, none] ∧ S2 fl = some (.lst (ms.map D.int ++ [.int x])) ∧ ms.length = i ∧ (ms ++ [x]).Pairwise (· < ·) ∧ (∀ y ∈ ms ++ [x], 1 ≤ y) ∧ x ≤ cB i ∧ (∃ y ∈ ms ++ [x], y ≤ 1000) ∧
        Pu S2 p (n + 4 + 3 * (i : Nat)) ∧ (∀ q, q ≠ p → q ≠ fl → S2 q = S q), ⟨[], a, _, _, rfl, c5, rfl, List.pairwise_singleton _ _, fun y hy => by rw [List.mem_singleton.mp hy]; exact ha.1, ha.2, ⟨a, List.mem_cons_self, ha.2⟩, h5.mono (by omega), o5⟩, ?_, ?_⟩
      · clear h5 c5 o5
        rintro i d_ _ S6 hd_ ⟨ms, x, x2, x3, rfl, c6, hl, hr, hpos, hx, hsm, h6, o6⟩
        obtain ⟨rfl, hi⟩ := rngD_at hd_
        obtain ⟨b1, b2, b3⟩ := cB_ok i (by omega)
        have x1 : 1 ≤ x := hpos x (by simp)
        clear hd_
        walk_at "gr"
        refine ve_lst ?_
        walk_at "gr"
        refine rv_ixL (.c c6) (L2.atI_last _ _) ?_
        walk_at "gr"
        intro t1 S7 t10 t11 h7 o7
        have c7 : S7 fl = some (.lst (ms.map D.int ++ [.int x])) := by rw [o7 fl (Ne.symm npf)]; exact c6
        walk_at "gr"
        refine rv_ixL (.c c7) (L2.atI_last _ _) ?_
        walk_at "gr"
        intro t2 S8 t20 t21 h8 o8
        have c8 : S8 fl = some (.lst (ms.map D.int ++ [.int x])) := by rw [o8 fl (Ne.symm npf)]; exact c7
        walk_at "gr"
        intro t3 S9 t30 t31 h9 o9
        have c9 : S9 fl = some (.lst (ms.map D.int ++ [.int x])) := by rw [o9 fl (Ne.symm npf)]; exact c8
        have o9 : ∀ q, q ≠ p → q ≠ fl → S9 q = S q := fun q n1 n2 => by rw [o9 q n1, o8 q n1, o7 q n1]; exact o6 q n1 n2
        clear h6 c6 o6 h7 c7 o7 h8 c8 o8
        have g1 : x * 2 ≤ x * (2 + t1) := Int.mul_le_mul_of_nonneg_left (by omega) (by omega)
        have g2 : x * (2 + t1) ≤ x * 12 := Int.mul_le_mul_of_nonneg_left (by omega) (by omega)
        obtain ⟨y, ea, b, rfl, hb⟩ := pick (fun d => ∃ b : Int, d = .int b ∧ x < b ∧ b ≤ cB (i + 1)) (xs := [.int (x * (2 + t1)), .int (x + 1 + t2)]) t30 t31 (ac ⟨_, rfl, by omega⟩ (ac ⟨_, rfl, by omega⟩ an))
        refine rv_ixL .v ea ?_
        clear ea g1 g2
        walk_at "gr"
        refine rm_append c9 (by rw [List.length_append, List.length_map, hl]; have := szl; show i + 1 < sizeLine; omega) ?_
        have em : ms.map D.int ++ [.int x] ++ [.int b] = (ms ++ [x]).map D.int ++ [.int b] := by rw [List.map_append]; rfl
        rw [em]
        refine ⟨ms ++ [x], b, _, _, rfl, put_same, by rw [List.length_append, hl]; rfl, ?_, fun y hy => ?_, hb.2, ?_, ?_, fun q n1 n2 => by rw [put_ne n2]; exact o9 q n1 n2⟩
        · rw [List.pairwise_append]
          refine ⟨hr, List.pairwise_singleton _ _, fun u hu v hv => ?_⟩
          rw [List.mem_singleton.mp hv]
          rcases List.mem_append.mp hu with hu | hu
          · have := (List.pairwise_append.mp hr).2.2 u hu x List.mem_cons_self
            omega
          · rw [List.mem_singleton.mp hu]; exact hb.1
        · rcases List.mem_append.mp hy with hy | hy
          · exact hpos y hy
          · rw [List.mem_singleton.mp hy]; omega
        · obtain ⟨y, hy, hy2⟩ := hsm
          exact ⟨y, List.mem_append.mpr (.inl hy), hy2⟩
        · exact (h9.wr npf).mono (by omega)
      clear h5 c5 o5
      rintro _ S6 ⟨ms, x, x2, x3, rfl, c6, hl, hr, hpos, hx, hsm, h6, o6⟩
      rw [rngD_len] at hl h6
      have h6 : Pu (VS.del S6 fl) p (n + 16) := by
        obtain ⟨a, b, c, e, r⟩ := h6
        exact ⟨a, b, c, (VS.del_ne npf).trans e, r.1, r.2.1, r.2.2.1, by have := r.2.2.2; omega⟩
      have o6 : Off p S (VS.del S6 fl) := fun q n1 => by
        by_cases z : q = fl
        · rw [z, VS.del_same, hS]
        · rw [VS.del_ne z]; exact o6 q n1 z
      have em : ms.map D.int ++ [.int x] = (ms ++ [x]).map D.int := by rw [List.map_append]; rfl
      rw [em] at c6
      have hl : (ms ++ [x]).length ≤ 5 := by rw [List.length_append, hl]; show m.toNat + 1 ≤ 5; omega
      clear em hx
      generalize ms ++ [x] = ks at c6 hl hr hpos hsm
      refine vx_freeze 1 rfl c6 ?_
      generalize VS.del S6 fl = S7 at h6 o6 ⊢
      clear c6 npf
      walk_at "gr"
      refine ve_lcF smD id (vi_list ?_)
      walk_at "gr"
      refine ⟨_, .v, by rw [List.length_map]; omega, fun d hd => ?_, ?_⟩
      · obtain ⟨k, hk, rfl⟩ := List.mem_map.mp hd
        walk_at "gr"
        refine ⟨rfl, fun _ => rfl, fun _ => ?_⟩
        walk_at "gr"
        exact ⟨rfl, rfl⟩
      have ef : ((ks.map D.int).filter smD).map id = (ks.filter fun k => decide (k < 100000)).map D.int := by
        rw [List.map_id, List.filter_map]
        rfl
      rw [ef]
      have f1 : 1 ≤ (ks.filter fun k => decide (k < 100000)).length := by
        obtain ⟨y, hy, hy2⟩ := hsm
        exact List.length_pos_of_mem (List.mem_filter.mpr ⟨hy, decide_eq_true (by omega)⟩)
      have f2 : (ks.filter fun k => decide (k < 100000)).length ≤ 5 := Nat.le_trans (List.length_filter_le _ _) hl
      have f3 : ∀ n ∈ ks.filter fun k => decide (k < 100000), 1 ≤ n ∧ n < 100000 := fun n hn => by
        obtain ⟨a, b⟩ := List.mem_filter.mp hn
        exact ⟨hpos n a, of_decide_eq_true b⟩
      have f4 : (ks.filter fun k => decide (k < 100000)).Pairwise (· < ·) := hr.sublist List.filter_sublist
      generalize (ks.filter fun k => decide (k < 100000)) = ns at f1 f2 f3 f4 ⊢
      clear ef hsm hpos hr hl
      refine vg_name ?_
      refine vx_join (fun ρ' S' => ∃ (ns' : List Int) (x2 x3 x4 : Option D), ρ' = [some (.ref p), some (.lst (ns'.map D.int)), x2, x3, none, none, none, none, none, none, none, none, none, none, x4, none] ∧ 1 ≤ ns'.length ∧ ns'.length ≤ 5 ∧ (∀ n ∈ ns', 1 ≤ n ∧ n ≤ 100000) ∧ ns'.Pairwise (· < ·) ∧ Pu S' p (n + 17) ∧ Off p S S') ?_ ?_
      · walk_at "gr"
        intro t S8 t0 t1 h8 o8
        walk_at "gr"
        refine VS.br (fun e => ?_) (fun e => ?_)
        · walk_at "gr"
          refine rs_list .v ?_
          rw [cut4]
          walk_at "gr"
          refine ve_lst ?_
          walk_at "gr"
          refine rv_cat .v .v (by rw [List.length_map, List.length_take]; have := szl; show _ + 1 ≤ sizeLine; omega) ?_
          have em : (ns.take (min 4 ns.length)).map D.int ++ [.int 100000] = (ns.take (min 4 ns.length) ++ [100000]).map D.int := by rw [List.map_append]; rfl
          rw [em]
          walk_at "gr"
          refine ⟨_, _, _, _, rfl, ?_, ?_, fun k hk => ?_, ?_, h8.mono (by omega), o6.trans o8⟩
          · rw [List.length_append]; exact Nat.le_add_left 1 _
          · rw [List.length_append, List.length_take]; show _ + 1 ≤ 5; omega
          · rcases List.mem_append.mp hk with hk | hk
            · have := f3 k (List.mem_of_mem_take hk)
              omega
            · rw [List.mem_singleton.mp hk]; omega
          · rw [List.pairwise_append]
            refine ⟨f4.sublist (List.take_sublist _ _), List.pairwise_singleton _ _, fun u hu v hv => ?_⟩
            rw [List.mem_singleton.mp hv]
            exact (f3 u (List.mem_of_mem_take hu)).2
        · walk_at "gr"
          exact ⟨ns, _, _, _, rfl, f1, f2, fun k hk => by have := f3 k hk; omega, f4, h8.mono (by omega), o6.trans o8⟩
      clear f1 f2 f3 f4 h6 o6
      rintro _ S8 ⟨ns', x2, x3, x4, rfl, f1, f2, f3, f4, h8, o8⟩
      have w2 : (ns'.map D.int).length = ns'.length := List.length_map ..
      walk_at "gr"
      intro f S2 f0 f1' h2 o2
      have o2 := o8.trans o2
      clear h8 o8
      walk_at "gr"
      intro hd S0 hd0 hd1 h3 o3
      have o3 := o2.trans o3
      obtain ⟨hc, eh, okh⟩ := hd_at hd0 hd1
      refine rv_ixS (by decide) eh ?_
      clear o2 h2 eh hd0 hd1
      walk_at "gr"
      refine ve_lcJ (fun d => ∃ z, d = .str z ∧ Lw 1 z ∧ z.length = 1) (fun i S3 => Pu S3 p (n + 19 + (i : Nat)) ∧ Off p S S3) (vi_rng1 ?_)
      walk_at "gr"
      refine ⟨6, rfl, by decide, by rw [rngD_len]; decide, ⟨h3.mono (by omega), o3⟩, ?_, ?_⟩
      · rintro i d S3 hd ⟨h3, o3⟩
        have hi : i < 6 := by
          have := (List.getElem?_eq_some_iff.mp hd).1
          rw [rngD_len] at this
          exact this
        walk_at "gr"
        refine ⟨rfl, ?_⟩
        walk_at "gr"
        intro t S4 t0 t1 h4 o4
        obtain ⟨ch, ea, el⟩ := lett_at t0 t1
        refine rv_ixS (by decide) ea ?_
        exact ⟨⟨_, rfl, Lw.one el, rfl⟩, h4.mono (by omega), o3.trans o4⟩
      clear h3 o3
      rintro acc S3 hl ha ⟨h3, o3⟩
      rw [rngD_len] at hl h3
      have hl : acc.length = 6 := hl
      have h3 : Pu S3 p (n + 25) := h3.mono (by show n + 19 + ((6 : Nat) : Int) ≤ n + 25; omega)
      obtain ⟨ys, rfl, hy⟩ := strs_all ha
      rw [List.length_map] at hl
      refine rm_join (.l .v) ?_ ?_
      · have := sum_le fun y z => (hy y z).1.1
        rw [show (Str.ofString "").length = 0 from by decide]
        omega
      have w5 : Lw 6 (Txt.join ("" : Str) ys) := Lw.join0 (fun y z => (hy y z).1) (by omega)
      have l5 : (Txt.join ("" : Str) ys).length = 6 := join0_len (fun y z => (hy y z).2) hl
      generalize Txt.join ("" : Str) ys = stm at w5 l5 ⊢
      clear hy hl ha
      have lh1 : (⟨#[hc]⟩ : Str).length = 1 := rfl
      refine rv_addS (by rw [lh1, l5]; omega) ?_
      have w6 : Lw 7 ((⟨#[hc]⟩ : Str) ++ stm) := (Lw.one (by unfold hdOk at okh; exact (Bool.and_eq_true _ _ ▸ okh).1)).add w5
      have l6 : ((⟨#[hc]⟩ : Str) ++ stm).length = 7 := by rw [len_add, l5]; rfl
      have hd6 : ((⟨#[hc]⟩ : Str) ++ stm).cps.toList.head? = some hc := by rw [tlA]; rfl
      generalize ((⟨#[hc]⟩ : Str) ++ stm) = stem at w6 l6 hd6 ⊢
      clear w5 l5 lh1
      walk_at "gr"
      intro wy S4 wy0 wy1 h4 o4
      have o4 := o3.trans o4
      clear h3 o3
      walk_at "gr"
      intro at_ S5 at0 at1 h5 o5
      have o5 := o4.trans o5
      clear h4 o4
      walk_at "gr"
      intro ct S9 ct0 ct1 h9 o9
      have o9 := o5.trans o9
      clear h5 o5
      obtain ⟨ka, rfl⟩ := Int.eq_ofNat_of_zero_le at0
      obtain ⟨kt, rfl⟩ := Int.eq_ofNat_of_zero_le ct0
      walk_at "gr"
      refine rm_splitV rfl (by decide +kernel) ?_
      have lw : (uW75.map D.str).length = 12 := by rw [List.length_map]; exact uW75_ok.1
      show VG _ _ (.lst (uW75.map D.str)) _ _ _
      walk_at "gr"
      refine ve_lcM (rngF (gn0 f)) (vi_rng1 ?_)
      walk_at "gr"
      refine ⟨_, rfl, by omega, by rw [rngD_len]; omega, fun d hd => ?_, ?_⟩
      · obtain ⟨i, rfl, hi⟩ := rng_mem hd
        walk_at "gr"
        refine ⟨rfl, ?_⟩
        walk_at "gr"
        have b0 : 0 ≤ (f + 5 * (i : Int)) % 12 := Int.emod_nonneg _ (by decide)
        have b1 : (f + 5 * (i : Int)) % 12 < 12 := Int.emod_lt_of_pos _ (by decide)
        have li : ((f + 5 * (i : Int)) % 12).toNat < uW75.length := by rw [uW75_ok.1]; omega
        have ea : atI (uW75.map D.str) ((f + 5 * (i : Int)) % 12) = some (.str (gn0 f i)) := by
          obtain ⟨t, ht⟩ := Int.eq_ofNat_of_zero_le b0
          unfold gn0
          rw [ht] at li ⊢
          rw [Int.toNat_natCast] at li ⊢
          refine atI_nat ?_
          rw [List.getElem?_map, List.getElem?_eq_getElem li]
          rfl
        refine rv_ixL .v ea ?_
        exact ⟨rfl, rfl⟩
      rw [rng_map, w2, Int.toNat_natCast]
      have F0 : Fn75 ns'.length ((List.range ns'.length).map (gn0 f)) := by
        have key : ∀ z ∈ (List.range ns'.length).map (gn0 f), (Nm z ∧ z ∉ kepts) ∧ z.length ≤ 7 := fun z hz => by
          obtain ⟨i, _, rfl⟩ := List.mem_map.mp hz
          have b0 : 0 ≤ (f + 5 * (i : Int)) % 12 := Int.emod_nonneg _ (by decide)
          have b1 : (f + 5 * (i : Int)) % 12 < 12 := Int.emod_lt_of_pos _ (by decide)
          have li : ((f + 5 * (i : Int)) % 12).toNat < uW75.length := by rw [uW75_ok.1]; omega
          unfold gn0
          rw [List.getElem?_eq_getElem li]
          exact uW75_ok.2 _ (List.getElem_mem _)
        exact ⟨by rw [List.length_map, List.length_range], gn0_nd f2, fun z hz => ⟨(key z hz).1.1, (key z hz).2⟩, .inl fun z hz => (key z hz).1.2⟩
      generalize (List.range ns'.length).map (gn0 f) = zs0 at F0 ⊢
      refine vg_name ?_
      refine vx_join (fun ρ' S' => ∃ (zs : List Str) (y2 y6 y15 : Option D), ρ' = [some (.ref p), some (.lst (ns'.map D.int)), y2, x3, some (.str "abcdefghijklmnopqrstuvwxyz"), some (.int f), y6, some (.int wy), some (.int (ka : Nat)), some (.int (kt : Nat)), some (.lst (uW75.map D.str)), some (.int ns'.length), some (.lst (zs.map D.str)), none, x4, y15] ∧ Fn75 ns'.length zs ∧ S9 = S' ∧ (y6 = some (.str stem))) ?_ ?_
      · walk_at "gr"
        refine VS.br (fun e => ?_) (fun e => ?_)
        rotate_left
        · walk_at "gr"
          exact ⟨zs0, _, _, _, rfl, F0, rfl, rfl⟩
        walk_at "gr"
        refine ve_lcM (rngF (gn1 f stem)) (vi_rng1 ?_)
        walk_at "gr"
        refine ⟨_, rfl, by omega, by rw [rngD_len]; omega, fun d hd => ?_, ?_⟩
        · obtain ⟨i, rfl, hi⟩ := rng_mem hd
          walk_at "gr"
          refine ⟨rfl, ?_⟩
          walk_at "gr"
          exact ⟨rfl, rfl⟩
        rw [rng_map, Int.toNat_natCast]
        walk_at "gr"
        refine ⟨_, _, _, _, rfl, ⟨by rw [List.length_map, List.length_range], gn1_nd l6 f2, fun z hz => ?_, .inl fun z hz => ?_⟩, rfl, rfl⟩
        · obtain ⟨i, _, rfl⟩ := List.mem_map.mp hz
          have ln := gn1_len (f := f) l6 i
          have b0 : 0 ≤ (f + 3 * (i : Int)) % 7 := Int.emod_nonneg _ (by decide)
          have b1 : (f + 3 * (i : Int)) % 7 < 7 := Int.emod_lt_of_pos _ (by decide)
          exact ⟨⟨(w6.cut _ _).mono (by decide), by omega⟩, by omega⟩
        · obtain ⟨i, _, rfl⟩ := List.mem_map.mp hz
          exact kept_hd okh (gn1_hd hd6 l6 i)
      clear F0
      rintro _ _ ⟨zs1, y2, _, y15, rfl, F1, rfl, rfl⟩
      refine vx_join (fun ρ' S' => ∃ (zs : List Str) (y2 y6 y15 : Option D), ρ' = [some (.ref p), some (.lst (ns'.map D.int)), y2, x3, some (.str "abcdefghijklmnopqrstuvwxyz"), some (.int f), y6, some (.int wy), some (.int (ka : Nat)), some (.int (kt : Nat)), some (.lst (uW75.map D.str)), some (.int ns'.length), some (.lst (zs.map D.str)), none, x4, y15] ∧ Fn75 ns'.length zs ∧ S9 = S') ?_ ?_
      · walk_at "gr"
        refine VS.br (fun e => ?_) (fun e => ?_)
        rotate_left
        · walk_at "gr"
          exact ⟨zs1, _, _, _, rfl, F1, rfl⟩
        walk_at "gr"
        have w8 : Lw 6 (cutS stem none (some ((kt : Nat) : Int))) := ⟨by rw [cut_len, l6]; omega, (w6.cut none (some ((kt : Nat) : Int))).2⟩
        generalize cutS stem none (some ((kt : Nat) : Int)) = st2 at w8 ⊢
        have l8 := w8.1
        have c1 := cut_len st2 ka
        have c2 := cut_lenR st2 ka
        walk_at "gr"
        refine ve_lcM (rngF (fn3 f (cutS st2 none (some (ka : Int))) (cutS st2 (some (ka : Int)) none))) (vi_rng1 ?_)
        walk_at "gr"
        refine ⟨_, rfl, by omega, by rw [rngD_len]; omega, fun d hd => ?_, ?_⟩
        · obtain ⟨i, rfl, hi⟩ := rng_mem hd
          walk_at "gr"
          refine ⟨rfl, ?_⟩
          walk_at "gr"
          have b0 : 0 ≤ (f + 7 * (i : Int)) % 26 := Int.emod_nonneg _ (by decide)
          have b1 : (f + 7 * (i : Int)) % 26 < 26 := Int.emod_lt_of_pos _ (by decide)
          refine rv_ixS (by decide) (lett_ex b0 b1) ?_
          have l1 : (⟨#[97 + ((f + 7 * (i : Int)) % 26).toNat]⟩ : Str).length = 1 := rfl
          walk_at "gr"
          exact rv_addS (by rw [len_add]; omega) ⟨rfl, rfl⟩
        rw [rng_map, Int.toNat_natCast]
        have zl : ∀ z ∈ (List.range ns'.length).map (fn3 f (cutS st2 none (some (ka : Int))) (cutS st2 (some (ka : Int)) none)), z.length = st2.length + 1 ∧ Lw 7 z := by
          intro z hz
          obtain ⟨i, _, rfl⟩ := List.mem_map.mp hz
          have l1 : (⟨#[chN (f + 7 * (i : Int))]⟩ : Str).length = 1 := rfl
          have le : (fn3 f (cutS st2 none (some (ka : Int))) (cutS st2 (some (ka : Int)) none) i).length = st2.length + 1 := by
            unfold fn3
            rw [len_add, len_add]
            omega
          refine ⟨le, by omega, ?_⟩
          exact (((w8.cut none (some (ka : Int))).add (Lw.one (chN_lc _))).add (w8.cut (some (ka : Int)) none)).2
        have nd := fn3_nd (f := f) (a := cutS st2 none (some (ka : Int))) (b := cutS st2 (some (ka : Int)) none) (n := ns'.length) (by omega)
        walk_at "gr"
        exact ⟨_, _, _, _, rfl, ⟨by rw [List.length_map, List.length_range], nd, fun z hz => ⟨⟨(zl z hz).2.mono (by decide), by have := (zl z hz).1; omega⟩, (zl z hz).2.1⟩, .inr ⟨_, fun z hz => (zl z hz).1⟩⟩, rfl⟩
      clear F1
      rintro _ _ ⟨zs2, y2, y6, y15, rfl, F2, rfl⟩
      walk_at "gr"
      refine rm_splitV rfl (by decide +kernel) ?_
      rw [kept_split]
      have fl := F2.l
      walk_at "gr"
      refine ve_lcM uqD (vi_list ?_)
      walk_at "gr"
      refine ⟨_, .v, by rw [List.length_map]; omega, fun d hd => ?_, ?_⟩
      · obtain ⟨z, hz, rfl⟩ := List.mem_map.mp hd
        have l7 := (F2.z z hz).2
        walk_at "gr"
        refine ⟨rfl, ?_⟩
        walk_at "gr"
        refine rv_in (.l .v) rfl (flat_strs kepts) ?_
        rw [if_neg (by decide), inD_strs]
        walk_at "gr"
        refine rv_mulS (mulq_ok _) ?_
        rw [mulq_one]
        refine rv_addS (by have : (if decide (z ∈ kepts) = true then ("q" : Str) else "").length ≤ 1 := by split <;> decide
                           omega) ?_
        rw [uq_eq]
        exact ⟨rfl, rfl⟩
      have em : (zs2.map D.str).map uqD = (zs2.map uq).map D.str := by rw [List.map_map, List.map_map]; rfl
      rw [em]
      obtain ⟨g1, g2, g3⟩ := F2.ok
      walk_at "gr"
      refine ve_zipRev ?_
      walk_at "gr"
      refine ⟨_, _, .v, .v, by rw [List.length_map, List.length_map]; omega, ?_⟩
      rw [zip_uD]
      refine q _ _ (ug_zip (by omega) ⟨f1, f2⟩ g3 g2 f3 f4) (fun u hu => ?_) (h9.mono (by omega)) o9
      have := (List.of_mem_zip hu).1
      obtain ⟨z, hz, e⟩ := List.mem_map.mp this
      rw [← e]
      exact uq_l7 (F2.z z hz).2) only [↓VS.box]
end
end LW
namespace LW
open PySem L2 C8 PySem.Spec PyProof.Rows VS
/-! ### the law's own writing; a loose writing -/
def W0 : UT → List Str
  | [] => []
  | (u, t) :: us => (if 0 < t then [nS t, u.1] else []) ++ W0 us
theorem wr_W0 : ∀ (us : UT) (r : Int), wrW us r = W0 us ++ (if 0 < r then [("rest" : Str), nS r] else [])
  | [], r => rfl
  | (u, t) :: us, r => by
    show (if 0 < t then [nS t, u.1] else []) ++ wrW us r = ((if 0 < t then [nS t, u.1] else []) ++ W0 us) ++ _
    rw [wr_W0 us r, List.append_assoc]
theorem W0_snoc : ∀ (us : UT) (u : Str × Int) (t : Int), W0 (us ++ [(u, t)]) = W0 us ++ (if 0 < t then [nS t, u.1] else [])
  | [], u, t => by
    show (if 0 < t then [nS t, u.1] else []) ++ [] = [] ++ _
    rw [List.append_nil, List.nil_append]
  | (v, s) :: us, u, t => by
    show (if 0 < s then [nS s, v.1] else []) ++ W0 (us ++ [(u, t)]) = ((if 0 < s then [nS s, v.1] else []) ++ W0 us) ++ _
    rw [W0_snoc us u t, List.append_assoc]
theorem tot_snoc : ∀ (us : UT) (u : Str × Int) (t r : Int), tot (us ++ [(u, t)]) r = tot us (t * u.2 + r)
  | [], _, _, _ => rfl
  | (v, s) :: us, u, t, r => by
    show s * v.2 + tot (us ++ [(u, t)]) r = s * v.2 + tot us (t * u.2 + r)
    rw [tot_snoc us u t r]
theorem W0_ok : ∀ {us : UT}, (∀ p ∈ us, U1 p.1) → (∀ p ∈ us, 0 ≤ p.2 ∧ p.2 ≤ 1000000) → (W0 us).length ≤ 2 * us.length ∧ ∀ y ∈ W0 us, Asc 8 y
  | [], _, _ => ⟨Nat.zero_le _, nofun⟩
  | (u, t) :: us, g, b => by
    obtain ⟨h1, h2⟩ := W0_ok (us := us) (fun p hp => g p (List.mem_cons_of_mem _ hp)) fun p hp => b p (List.mem_cons_of_mem _ hp)
    have gu := g _ List.mem_cons_self
    have bu := b _ List.mem_cons_self
    dsimp only at gu bu
    show ((if 0 < t then [nS t, u.1] else []) ++ W0 us).length ≤ _ ∧ ∀ y ∈ (if 0 < t then [nS t, u.1] else []) ++ W0 us, Asc 8 y
    refine ⟨?_, fun y hy => ?_⟩
    · rw [List.length_append, List.length_cons]
      split <;> simp <;> omega
    · rcases List.mem_append.mp hy with hy | hy
      · split at hy
        · simp only [List.mem_cons, List.not_mem_nil, or_false] at hy
          rcases hy with rfl | rfl
          · exact nS_asc bu.1 bu.2
          · exact gu.asc
        · cases hy
      · exact h2 y hy
end LW
namespace LW
open PySem L2 C8 PySem.Spec PyProof.Rows VS
/-! ### a size written by the law, and loosely -/
def p_size75 : Pt := fun ds S G _ => ∃ us n, ds = [.lst (us.map uD), .int n] ∧ Ug us ∧ 0 ≤ n ∧ n ≤ 1000000 ∧ G (.str (txS us n)) S
def p_loose74 : Pt := fun ds S G _ => ∃ (p : Addr) (m : Int) (us : List (Str × Int)) (n : Int) (sh : Bool), ds = [.ref p, .lst (us.map uD), .int n, .bl sh] ∧ Pu S p m ∧ m < 900000 ∧ Ug us ∧ 0 ≤ n ∧ n ≤ 1000000 ∧
  ∀ (uts : UT) (r : Int) S', uts.map (·.1) = us → UtOk uts r → tot uts r = n → Pu S' p (m + 5) → Off p S S' → G (.str (wrS uts r)) S'
section
variable {P : Program} {w : World} {K : PySem.W.Frag} {mg : Str → Option Value} {base : Heap}
theorem ok__law_size {f : Addr} {fd : FuncData} {C_Measure C_Sides C_Parcel C_Heap C_NoNumber C_NoSize C_NoMeasure C_NoSide C_NoOrder C_NoSides : Addr}
    (F : Fd K "_law_size" "_law_size" s__law_size [] f fd) (T : Tx K mg) (hsys : SysOk base) :
    FnG P w K mg base (L2.CX P w) 1 f fd a__law_size (spOf K p_size75) := by
  refine VS.unbox ?_
  simp (disch := with_unfolding_all
    refine fn_val F sc__law_size (fun ds S G Y h => ?_) (fun cdv A hgd outer s H E hr px tk po ds S G Y h => ?_)
    · obtain ⟨us, n, rfl, _⟩ := h
      rfl
    · obtain ⟨us, n, rfl, g, n0, n1, q⟩ := h
      refine ⟨_, (pss_cons (ps_set (i := 2) sc__law_size.nd rfl (Or.inl rfl) (pe_lst pa_nil))
        (pss_cons (ps_for po rfl (pi_list (pv 0)) (pg_tup (n := 2) rfl (pgs_cons (pg_name (i := 3) sc__law_size.nd rfl (Or.inl rfl)) (pgs_cons (pg_name (i := 4) sc__law_size.nd rfl (Or.inl rfl)) pgs_nil)))
        (pss_one (ps_if (pt_cmpR op_ge (pv 1) (pv 4) (nomark _)) (pss_cons (ps_set (i := 2) sc__law_size.nd rfl (Or.inl rfl) (pe_op op_cat (pv 2) (pe_lst (pa_cons (pe_callTy c_strInt (by rfl) T.b_str (by decide +kernel) (pa_cons (pe_op op_fdivW (pv 1) (pv 4)) pa_nil)) (pa_cons (pv 3) pa_nil)))))
        (pss_one (ps_set (i := 1) sc__law_size.nd rfl (Or.inl rfl) (pe_op op_mod (pv 1) (pv 4)))))
        pss_nil)))
        (pss_cons (ps_if (pt_cmpR op_gt (pv 1) pe_int (nomark _)) (pss_one (ps_set (i := 2) sc__law_size.nd rfl (Or.inl rfl) (pe_op op_cat (pv 2) (pe_lst (pa_cons pe_str (pa_cons (pe_callTy c_strInt (by rfl) T.b_str (by decide +kernel) (pa_cons (pv 1) pa_nil)) pa_nil))))))
        pss_nil)
        (pss_one (ps_ret (pe_ifExp (pt_cmpR (op_neE hr) (pv 2) (pe_lst pa_nil) (nomark _)) (pe_m1 PySem.F.slot_str_join PySem.F.type_str_join m_join pe_str (pv 2)) pe_str)))))), ?_⟩
      (try dsimp only [cxOf, List.map])
      show VX _ _ [_, _, _, _, _] _ _
      have sz := szl
      have g2 := g.l.2
      walk_at "gr"
      refine ve_lst ?_
      walk_at "gr"
      refine vx_for (vi_list ?_)
      walk_at "gr"
      refine ⟨_, .v, fun j ρ2 S2 => S2 = S ∧ ∃ x4 x5, ρ2 = [some (.lst (us.map uD)), some (.int (txF (us.take j) n).2), some (.lst ((txF (us.take j) n).1.map D.str)), x4, x5], ⟨rfl, _, _, rfl⟩, ?_, ?_⟩
      · rintro j d ρ2 S2 hd ⟨rfl, x4, x5, rfl⟩
        rw [List.getElem?_map] at hd
        obtain ⟨u, hu, rfl⟩ := Option.map_eq_some_iff.mp hd
        have gu := g.u u (List.mem_of_getElem? hu)
        have t := txF_ok (us := us.take j) (fun v hv => g.u v (List.mem_of_mem_take hv)) ⟨n0, n1⟩
        have tl := t.l
        have hj : j < us.length := (List.getElem?_eq_some_iff.mp hu).1
        have lt : (us.take j).length = j := by rw [List.length_take]; omega
        rw [lt] at tl
        have et := txF_take (n := n) hu
        have e1 : (txF (us.take (j + 1)) n).1 = (txF (us.take j) n).1 ++ (if 0 < (txF (us.take j) n).2 / u.2 then [nS ((txF (us.take j) n).2 / u.2), u.1] else []) := by rw [et]; rfl
        have e2 : (txF (us.take (j + 1)) n).2 = (txF (us.take j) n).2 % u.2 := by rw [et]; rfl
        clear et hd hu
        generalize txF (us.take j) n = st at t tl e1 e2 ⊢
        obtain ⟨a, b, c, dd, ee⟩ := div_b t.r.1 gu.p.1
        have hr := t.r
        have gp := gu.p
        obtain ⟨z, e⟩ := u
        dsimp only at a b c dd ee gp e1 e2 ⊢
        rw [show uD (z, e) = .tup [.str z, .int e] from rfl]
        walk_at "gr"
        refine VS.br (fun h2 => ?_) (fun h2 => ?_)
        · have h3 : 0 < st.2 / e := by have := (Int.le_ediv_iff_mul_le (by omega : 0 < e)).mpr (show 1 * e ≤ st.2 by omega); omega
          rw [if_pos h3] at e1
          walk_at "gr"
          refine ve_lst ?_
          walk_at "gr"
          refine rv_cat (ds := st.1.map D.str) (es := [.str (nS (st.2 / e)), .str z]) .v .v (by rw [List.length_map]; show _ + 2 ≤ sizeLine; omega) ?_
          walk_at "gr"
          exact ⟨rfl, _, _, by rw [e1, e2, List.map_append] <;> rfl⟩
        · have h3 : st.2 / e = 0 := Int.ediv_eq_zero_of_lt (by omega) (by omega)
          have h4 : st.2 % e = st.2 := Int.emod_eq_of_lt (by omega) (by omega)
          rw [h3, if_neg (by decide), List.append_nil] at e1
          rw [h4] at e2
          walk_at "gr"
          exact ⟨rfl, _, _, by rw [e1, e2] <;> rfl⟩
      · rintro ρ2 S2 ⟨rfl, x4, x5, rfl⟩
        rw [List.length_map, List.take_length]
        have t := txF_ok g.u ⟨n0, n1⟩ (n := n)
        obtain ⟨wl, wa⟩ := txW_ok g ⟨n0, n1⟩ (n := n)
        have et : (txW us n) = (txF us n).1 ++ (if 0 < (txF us n).2 then [("rest" : Str), nS (txF us n).2] else []) := rfl
        have tl := t.l
        have tr := t.r
        refine vx_join (fun ρ' S' => S' = S2 ∧ ∃ x1, ρ' = [some (.lst (us.map uD)), x1, some (.lst ((txW us n).map D.str)), x4, x5]) ?_ ?_
        · rw [et]
          walk_at "gr"
          refine VS.br (fun h2 => ?_) (fun h2 => ?_)
          · rw [if_pos h2]
            walk_at "gr"
            refine ve_lst ?_
            walk_at "gr"
            refine rv_cat (ds := (txF us n).1.map D.str) (es := [.str "rest", .str (nS (txF us n).2)]) .v .v (by rw [List.length_map]; show _ + 2 ≤ sizeLine; omega) ?_
            walk_at "gr"
            exact ⟨rfl, _, by rw [List.map_append] <;> rfl⟩
          · rw [if_neg h2, List.append_nil]
            walk_at "gr"
            exact ⟨rfl, _, rfl⟩
        · clear tl tr t et
          rintro _ _ ⟨rfl, x1, rfl⟩
          unfold txS at q
          generalize txW us n = ys at wl wa q ⊢
          walk_at "gr"
          refine ve_lst ?_
          cases ys with
          | nil =>
            rw [if_pos rfl] at q
            walk_at "gr"
            exact q
          | cons y ys =>
            rw [if_neg (by simp)] at q
            walk_at "gr"
            refine rm_join (.l .v) ?_ q
            have := sum_le fun y hy => (wa y hy).1
            rw [show (Str.ofString " ").length = 1 from by decide]
            omega) only [↓VS.box]
theorem ok__law_loose {f : Addr} {fd : FuncData} {C_Measure C_Sides C_Parcel C_Heap C_NoNumber C_NoSize C_NoMeasure C_NoSide C_NoOrder C_NoSides : Addr} {f__law_take : Addr} {g__law_take : FuncData}
    (F : Fd K "_law_loose" "_law_loose" s__law_loose [] f fd) (T : Tx K mg) (hsys : SysOk base)
    (c__law_take : Cf P w K mg base (L2.CX P w) 1 "_law_take" s__law_take [] a__law_take p__law_take f__law_take g__law_take) :
    FnG P w K mg base (L2.CX P w) 2 f fd a__law_loose (spOf K p_loose74) := by
  refine VS.unbox ?_
  simp (disch := with_unfolding_all
    refine fn_val F sc__law_loose (fun ds S G Y h => ?_) (fun cdv A hgd outer s H E hr px tk po ds S G Y h => ?_)
    · obtain ⟨p, m, us, n, sh, rfl, _⟩ := h
      rfl
    · obtain ⟨p, m, us, n, sh, rfl, hp, hm, g, n0, n1, q⟩ := h
      refine ⟨_, (pss_cons (ps_set (i := 4) sc__law_loose.nd rfl (Or.inl rfl) (pe_lst pa_nil))
        (pss_cons (ps_for po rfl (pi_list (pv 1)) (pg_tup (n := 2) rfl (pgs_cons (pg_name (i := 5) sc__law_loose.nd rfl (Or.inl rfl)) (pgs_cons (pg_name (i := 6) sc__law_loose.nd rfl (Or.inl rfl)) pgs_nil)))
        (pss_cons (ps_set (i := 7) sc__law_loose.nd rfl (Or.inl rfl) (pe_ifExp (pt_val (pv 3)) pe_int (pe_cG c__law_take.fn hgd (hr.mono (by decide)) (by rfl) c__law_take.mg c__law_take.kp c__law_take.b .nil VS.pass0 (pa_cons (pv 0) (pa_cons (pe_op op_add (pe_op op_fdivW (pv 2) (pv 6)) pe_int) pa_nil)))))
        (pss_one (ps_if (pt_cmpR op_gt (pv 7) pe_int (nomark _)) (pss_cons (ps_set (i := 4) sc__law_loose.nd rfl (Or.inl rfl) (pe_op op_cat (pv 4) (pe_lst (pa_cons (pe_callTy c_strInt (by rfl) T.b_str (by decide +kernel) (pa_cons (pv 7) pa_nil)) (pa_cons (pv 5) pa_nil)))))
        (pss_one (ps_set (i := 2) sc__law_loose.nd rfl (Or.inl rfl) (pe_op op_sub (pv 2) (pe_op op_mulW (pv 7) (pv 6))))))
        pss_nil))))
        (pss_cons (ps_if (pt_cmpR op_gt (pv 2) pe_int (nomark _)) (pss_one (ps_set (i := 4) sc__law_loose.nd rfl (Or.inl rfl) (pe_op op_cat (pv 4) (pe_lst (pa_cons pe_str (pa_cons (pe_callTy c_strInt (by rfl) T.b_str (by decide +kernel) (pa_cons (pv 2) pa_nil)) pa_nil))))))
        pss_nil)
        (pss_one (ps_ret (pe_ifExp (pt_cmpR (op_neE hr) (pv 4) (pe_lst pa_nil) (nomark _)) (pe_m1 PySem.F.slot_str_join PySem.F.type_str_join m_join pe_str (pv 4)) pe_str)))))), ?_⟩
      (try dsimp only [cxOf, List.map])
      show VX _ _ [_, _, _, _, _, _, _, _] _ _
      have sz := szl
      have g2 := g.l.2
      walk_at "gr"
      refine ve_lst ?_
      walk_at "gr"
      refine vx_for (vi_list ?_)
      walk_at "gr"
      refine ⟨_, .v, fun j ρ2 S2 => ∃ (uts : UT) (l : Int) (x5 x6 x7 : Option D), ρ2 = [some (.ref p), some (.lst (us.map uD)), some (.int l), some (.bl sh), some (.lst ((W0 uts).map D.str)), x5, x6, x7] ∧ uts.map (·.1) = us.take j ∧ (∀ p ∈ uts, 0 ≤ p.2 ∧ p.2 ≤ 1000000) ∧ tot uts l = n ∧ 0 ≤ l ∧ l ≤ n ∧ Pu S2 p (m + (j : Nat)) ∧ Off p S S2, ⟨[], n, _, _, _, rfl, rfl, nofun, rfl, n0, Int.le_refl _, hp.mono (by omega), Off.refl⟩, ?_, ?_⟩
      · rintro j d ρ2 S2 hd ⟨uts, l, x5, x6, x7, rfl, hu, hb, ht, l0, l1, h2, o2⟩
        rw [List.getElem?_map] at hd
        obtain ⟨u, hu2, rfl⟩ := Option.map_eq_some_iff.mp hd
        have gu := g.u u (List.mem_of_getElem? hu2)
        have hj : j < us.length := (List.getElem?_eq_some_iff.mp hu2).1
        have lu : uts.length = j := by rw [← List.length_map (f := (·.1)), hu, List.length_take]; omega
        have gs : ∀ p ∈ uts, U1 p.1 := fun p hp => g.u _ (List.mem_of_mem_take (by rw [← hu]; exact List.mem_map.mpr ⟨p, hp, rfl⟩))
        obtain ⟨wl, wa⟩ := W0_ok gs hb
        have tk : us.take (j + 1) = us.take j ++ [u] := by rw [List.take_succ, hu2]; rfl
        obtain ⟨a, b, c, dd, ee⟩ := div_b l0 gu.p.1
        have gp := gu.p
        have fin : ∀ t : Int, 0 ≤ t → t ≤ 1000000 → (uts ++ [(u, t)]).map (·.1) = us.take (j + 1) ∧ (∀ p ∈ uts ++ [(u, t)], 0 ≤ p.2 ∧ p.2 ≤ 1000000) ∧ tot (uts ++ [(u, t)]) (l - t * u.2) = n ∧ W0 (uts ++ [(u, t)]) = W0 uts ++ (if 0 < t then [nS t, u.1] else []) := fun t t0 t1 => by
          refine ⟨by rw [List.map_append, hu, tk]; rfl, fun p hp => ?_, ?_, W0_snoc ..⟩
          · rcases List.mem_append.mp hp with hp | hp
            · exact hb p hp
            · rw [List.mem_singleton.mp hp]; exact ⟨t0, t1⟩
          · rw [tot_snoc, show t * u.2 + (l - t * u.2) = l by omega]
            exact ht
        have hle := Int.ediv_mul_le l (by omega : u.2 ≠ 0)
        clear hd hu2 tk
        obtain ⟨z, e⟩ := u
        dsimp only at a b c dd ee gp fin hle
        rw [show uD (z, e) = .tup [.str z, .int e] from rfl]
        walk_at "gr"
        obtain ⟨A, hA⟩ : ∃ A : D → Sto → Prop, A = fun d S' => ∃ t : Int, d = .int t ∧ 0 ≤ t ∧ t < l / e + 1 ∧ Pu S' p (m + (j : Nat) + 1) ∧ Off p S S' := ⟨_, rfl⟩
        apply joinD (A := A)
        · intro R
          refine ⟨fun _ => ?_, fun _ => ?_⟩
          · refine ve_int ?_
            have a : A (.int 0) S2 := by rw [hA]; exact ⟨0, rfl, by omega, by omega, h2.mono (by omega), o2⟩
            generalize D.int 0 = d0 at a ⊢
            generalize S2 = S9 at a ⊢
            exact R _ _ a
          · walk_at "gr"
            intro t S3 t0 t1 h3 o3
            have a : A (.int t) S3 := by rw [hA]; exact ⟨t, rfl, t0, t1, h3, o2.trans o3⟩
            generalize D.int t = d0 at a ⊢
            exact R _ _ a
        intro d0 S3 a
        rw [hA] at a
        obtain ⟨t, rfl, t0, t1, h3, o3⟩ := a
        clear hA
        obtain ⟨f1, f2, f3, f4⟩ := fin t t0 (by omega)
        have te : t * e ≤ l / e * e := Int.mul_le_mul_of_nonneg_right (by omega) (by omega)
        have te0 := Int.mul_nonneg t0 (by omega : 0 ≤ e)
        walk_at "gr"
        refine VS.br (fun e1 => ?_) (fun e1 => ?_)
        · rw [if_pos e1] at f4
          walk_at "gr"
          refine ve_lst ?_
          walk_at "gr"
          refine rv_cat (ds := (W0 uts).map D.str) (es := [.str (nS t), .str z]) .v .v (by rw [List.length_map]; show _ + 2 ≤ sizeLine; omega) ?_
          walk_at "gr"
          exact ⟨uts ++ [((z, e), t)], l - t * e, _, _, _, by rw [f4, List.map_append] <;> rfl, f1, f2, f3, by omega, by omega, h3.mono (by omega), o3⟩
        · have e0 : t = 0 := by omega
          subst e0
          rw [if_neg e1, List.append_nil] at f4
          rw [Int.zero_mul, Int.sub_zero] at f3
          walk_at "gr"
          exact ⟨uts ++ [((z, e), 0)], l, _, _, _, by rw [f4] <;> rfl, f1, f2, f3, l0, l1, h3.mono (by omega), o3⟩
      · rintro ρ2 S2 ⟨uts, l, x5, x6, x7, rfl, hu, hb, ht, l0, l1, h2, o2⟩
        rw [List.length_map] at hu h2
        rw [List.take_length] at hu
        have lu : uts.length = us.length := by rw [← List.length_map (f := (·.1)), hu]
        have gs : ∀ p ∈ uts, U1 p.1 := fun p hp => g.u _ (by rw [← hu]; exact List.mem_map.mpr ⟨p, hp, rfl⟩)
        obtain ⟨wl, wa⟩ := W0_ok gs hb
        have ok : UtOk uts l := ⟨gs, by rw [show uts.map (·.1.1) = (uts.map (·.1)).map (·.1) by rw [List.map_map]; rfl, hu]; exact g.d, fun p hp => by have := hb p hp; omega, l0, by omega⟩
        have q := q uts l S2 hu ok ht (h2.mono (by omega)) o2
        have ew := wr_W0 uts l
        have wx : (wrW uts l).length ≤ 12 ∧ ∀ y ∈ wrW uts l, Asc 8 y := by
          have := wr_len uts l
          refine ⟨by omega, fun y hy => ?_⟩
          rw [ew] at hy
          rcases List.mem_append.mp hy with hy | hy
          · exact wa y hy
          · split at hy
            · simp only [List.mem_cons, List.not_mem_nil, or_false] at hy
              rcases hy with rfl | rfl
              · exact ⟨by decide, by decide +kernel⟩
              · exact nS_asc l0 (by omega)
            · cases hy
        refine vx_join (fun ρ' S' => S' = S2 ∧ ρ' = [some (.ref p), some (.lst (us.map uD)), some (.int l), some (.bl sh), some (.lst ((wrW uts l).map D.str)), x5, x6, x7]) ?_ ?_
        · rw [ew]
          walk_at "gr"
          refine VS.br (fun h2 => ?_) (fun h2 => ?_)
          · rw [if_pos h2]
            walk_at "gr"
            refine ve_lst ?_
            walk_at "gr"
            refine rv_cat (ds := (W0 uts).map D.str) (es := [.str "rest", .str (nS l)]) .v .v (by rw [List.length_map]; show _ + 2 ≤ sizeLine; omega) ?_
            walk_at "gr"
            exact ⟨rfl, by rw [List.map_append] <;> rfl⟩
          · rw [if_neg h2, List.append_nil]
            walk_at "gr"
            exact ⟨rfl, rfl⟩
        · rintro _ _ ⟨rfl, rfl⟩
          obtain ⟨wl, wa⟩ := wx
          unfold wrS at q
          clear ew
          generalize wrW uts l = ys at wl wa q ⊢
          walk_at "gr"
          refine ve_lst ?_
          cases ys with
          | nil =>
            rw [if_pos rfl] at q
            walk_at "gr"
            exact q
          | cons y ys =>
            rw [if_neg (by simp)] at q
            walk_at "gr"
            refine rm_join (.l .v) ?_ q
            have := sum_le fun y hy => (wa y hy).1
            rw [show (Str.ofString " ").length = 1 from by decide]
            omega) only [↓VS.box]
end
end LW
namespace LW
open PySem L2 C8 PySem.Spec PyProof.Rows VS
/-! ### rows of parcels; parcels and heaps made of them -/
def rwD (r : Pc) : D := .lst [.str r.nm, .lst [.int r.a, .int r.b, .int r.c], .int r.wl, .int r.wt, .int r.br, .lst (r.mk.map D.str)]
def Rwg (r : Pc) : Prop := r.g ∧ mksOf r.mk = r.mk
def mk3 (x y z : Bool) : List Str := (if x then [("alone" : Str)] else []) ++ ((if y then [("top" : Str)] else []) ++ (if z then [("upright" : Str)] else []))
theorem mk3_mk (x y z : Bool) : Mk (mk3 x y z) := by cases x <;> cases y <;> cases z <;> exact ⟨by decide, by decide, by decide⟩
theorem mk3_of (x y z : Bool) : mksOf (mk3 x y z) = mk3 x y z := by cases x <;> cases y <;> cases z <;> decide +kernel
structure Hrs (rs : List Pc) : Prop where
  g : ∀ r ∈ rs, Rwg r
  n : (rs.map Pc.nm).Nodup
  l : rs.length ≤ 12
theorem Hrs.hps {rs : List Pc} (h : Hrs rs) : Hps rs := ⟨fun p hp => (h.g p hp).1, h.n, h.l⟩
def p_row74 : Pt := fun ds S G _ => ∃ (p : Addr) (n : Int) (nm : Str), ds = [.ref p, .str nm] ∧ Pu S p n ∧ n < 700000 ∧ Nm nm ∧ ∀ r S', r.nm = nm → Rwg r → Pu S' p (n + 20) → Ex1 p S S' → G (rwD r) S'
def p_parcel74 (CP CS : Addr) : Pt := fun ds S G _ => ∃ r : Pc, ds = [rwD r] ∧ Rwg r ∧ G (r.d CP CS) S
def p_heap74 (CH CP CS : Addr) : Pt := fun ds S G _ => ∃ rs : List Pc, ds = [.lst (rs.map rwD)] ∧ Hrs rs ∧ ∀ h l S', S h = none → S l = none → Ext S S' → HpS S' CH CP CS h l rs → G (.ref h) S'
theorem ve_mkPc {c : VS.Ctx} {ρ : Rho} {S : Sto} {F : D → Sto → Prop} {t : TA} {E : L2.St → XK} {CP CS : Addr}
    (h : VA c t ρ S fun ds S1 => ∃ nm a b d wl wt br mk, ds = [.str nm, sd CS a b d, .int wl, .int wt, .int br, .lst (mk.map D.str)] ∧ Pg nm a b d wl wt br mk ∧ F (pcD CP CS nm a b d wl wt br (mksOf mk)) S1) : VE c (tMakeE CP (spOf c.K (p_Pc_init CP CS)) [] E t) ρ S F :=
  ve_mk0 XOk.none (h.imp fun ds S1 ⟨nm, a, b, d, wl, wt, br, mk, e, g, q⟩ y hy => by
    subst e
    exact ⟨y, nm, a, b, d, wl, wt, br, mk, rfl, put_same, g, rfl, y, _, rfl, put_same, nofun, by rw [del_put2 hy]; exact q⟩)
local macro_rules | `(tactic| walk_at "gp") => `(tactic| with_reducible refine ve_mkPc ?_)
section
variable {P : Program} {w : World} {K : PySem.W.Frag} {mg : Str → Option Value} {base : Heap}
theorem ok__law_row {f : Addr} {fd : FuncData} {C_Measure C_Sides C_Parcel C_Heap C_NoNumber C_NoSize C_NoMeasure C_NoSide C_NoOrder C_NoSides : Addr} {f__law_take f__law_three : Addr} {g__law_take g__law_three : FuncData}
    (F : Fd K "_law_row" "_law_row" s__law_row [] f fd) (T : Tx K mg) (hsys : SysOk base)
    (c__law_take : Cf P w K mg base (L2.CX P w) 1 "_law_take" s__law_take [] a__law_take p__law_take f__law_take g__law_take)
    (c__law_three : Cf P w K mg base (L2.CX P w) 2 "_law_three" s__law_three [] a__law_three p__law_three74 f__law_three g__law_three) :
    FnG P w K mg base (L2.CX P w) 3 f fd a__law_row (spOf K p_row74) := by
  refine VS.unbox ?_
  simp (disch := with_unfolding_all
    refine fn_val F sc__law_row (fun ds S G Y h => ?_) (fun cdv A hgd outer s H E hr px tk po ds S G Y h => ?_)
    · obtain ⟨p, n, nm, rfl, _⟩ := h
      rfl
    · obtain ⟨p, n, nm, rfl, hp, hn, hnm, q⟩ := h
      refine ⟨_, (pss_cons (ps_set (i := 2) sc__law_row.nd rfl (Or.inl rfl) (pe_cG c__law_three.fn hgd (hr.mono (by decide)) (by rfl) c__law_three.mg c__law_three.kp c__law_three.b .nil VS.pass0 (pa_cons (pv 0) (pa_cons pe_int pa_nil))))
        (pss_cons (ps_set (i := 3) sc__law_row.nd rfl (Or.inl rfl) (pe_ix ix_list (pe_lst (pa_cons pe_int (pa_cons pe_int (pa_cons (pe_op op_add pe_int (pe_cG c__law_take.fn hgd (hr.mono (by decide)) (by rfl) c__law_take.mg c__law_take.kp c__law_take.b .nil VS.pass0 (pa_cons (pv 0) (pa_cons pe_int pa_nil)))) pa_nil)))) (pe_cG c__law_take.fn hgd (hr.mono (by decide)) (by rfl) c__law_take.mg c__law_take.kp c__law_take.b .nil VS.pass0 (pa_cons (pv 0) (pa_cons pe_int pa_nil))) (fun _ _ => rfl)))
        (pss_cons (ps_set (i := 4) sc__law_row.nd rfl (Or.inl rfl) (pe_ix ix_list (pe_lst (pa_cons pe_int (pa_cons pe_int (pa_cons (pe_cG c__law_take.fn hgd (hr.mono (by decide)) (by rfl) c__law_take.mg c__law_take.kp c__law_take.b .nil VS.pass0 (pa_cons (pv 0) (pa_cons pe_int pa_nil))) pa_nil)))) (pe_cG c__law_take.fn hgd (hr.mono (by decide)) (by rfl) c__law_take.mg c__law_take.kp c__law_take.b .nil VS.pass0 (pa_cons (pv 0) (pa_cons pe_int pa_nil))) (fun _ _ => rfl)))
        (pss_cons (ps_set (i := 5) sc__law_row.nd rfl (Or.inl rfl) (pe_ix ix_list (pe_lst (pa_cons pe_int (pa_cons pe_int (pa_cons (pe_cG c__law_take.fn hgd (hr.mono (by decide)) (by rfl) c__law_take.mg c__law_take.kp c__law_take.b .nil VS.pass0 (pa_cons (pv 0) (pa_cons pe_int pa_nil))) pa_nil)))) (pe_cG c__law_take.fn hgd (hr.mono (by decide)) (by rfl) c__law_take.mg c__law_take.kp c__law_take.b .nil VS.pass0 (pa_cons (pv 0) (pa_cons pe_int pa_nil))) (fun _ _ => rfl)))
        (pss_cons (ps_setLc (i := 6) (own := [("_law_mark", 7)]) rfl sc__law_row.nd rfl rfl (sw_true rfl rfl rfl (by decide +kernel)) (pi_list (pe_lst (pa_cons pe_str (pa_cons pe_str (pa_cons pe_str pa_nil))))) (blkOk_by (own := [("_law_mark", 7)]) (N := n__law_row) (sc := defScope s__law_row) (by decide +kernel)) (fun _ _ _ _ _ => (pg_name (i := 7) sc__law_row.nd rfl (Or.inl rfl))) (fun _ _ _ _ _ => (pts_one (pt_cmpR op_eq (pe_cG c__law_take.fn hgd (hr.mono (by decide)) (by rfl) c__law_take.mg c__law_take.kp c__law_take.b .nil VS.pass0 (pa_cons (pv 0) (pa_cons pe_int pa_nil))) pe_int (nomark _)))) (fun _ _ _ _ _ => (pv 7)))
        (pss_one (ps_ret (pe_lst (pa_cons (pv 1) (pa_cons (pv 2) (pa_cons (pv 3) (pa_cons (pv 4) (pa_cons (pv 5) (pa_cons (pv 6) pa_nil)))))))))))))), ?_⟩
      (try dsimp only [cxOf, List.map])
      show VX _ _ [_, _, _, _, _, _, _, _] _ _
      walk_at "gr"
      refine ⟨p, n, 100000, rfl, hp, by omega, by decide, by decide, fun a b c l S1 ha hb hc nl c1 h1 e1 => ?_⟩
      have npl := hp.ne nl
      refine vg_name ?_
      refine vx_freeze 2 rfl c1 ?_
      have h1 : Pu (VS.del S1 l) p (n + 6) := by
        obtain ⟨x, y, z, e, r⟩ := h1
        exact ⟨x, y, z, (VS.del_ne npl).trans e, r⟩
      have e1 : Ex1 p S (VS.del S1 l) := fun x d nx hx => by
        have ne : x ≠ l := fun z => by rw [z, nl] at hx; cases hx
        exact (VS.del_ne ne).trans (e1 x d nx hx)
      generalize VS.del S1 l = S1 at h1 e1 ⊢
      clear c1 nl npl
      walk_at "gr"
      refine ve_lst ?_
      walk_at "gr"
      intro t S2 t0 t1 h2 o2
      walk_at "gr"
      intro u S3 u0 u1 h3 o3
      have o3 := e1.trans (o2.trans o3).ex1
      clear h1 h2 o2 e1
      refine rv_ixAll (fun d => ∃ v : Int, d = .int v ∧ 1 ≤ v ∧ v ≤ 1000) u0 u1 (ac ⟨_, rfl, by decide, by decide⟩ (ac ⟨_, rfl, by decide, by decide⟩ (ac ⟨_, rfl, by omega, by omega⟩ an))) ?_
      rintro _ ⟨wl, rfl, w0, w1⟩
      clear t0 t1 u0 u1
      walk_at "gr"
      refine ve_lst ?_
      walk_at "gr"
      intro t S4 t0 t1 h4 o4
      walk_at "gr"
      intro u S5 u0 u1 h5 o5
      have o5 := o3.trans (o4.trans o5).ex1
      clear h3 h4 o4 o3
      refine rv_ixAll (fun d => ∃ v : Int, d = .int v ∧ 0 ≤ v ∧ v ≤ 100000) u0 u1 (ac ⟨_, rfl, by decide, by decide⟩ (ac ⟨_, rfl, by decide, by decide⟩ (ac ⟨_, rfl, by omega, by omega⟩ an))) ?_
      rintro _ ⟨wt, rfl, wt0, wt1⟩
      clear t0 t1 u0 u1
      walk_at "gr"
      refine ve_lst ?_
      walk_at "gr"
      intro t S6 t0 t1 h6 o6
      walk_at "gr"
      intro u S8 u0 u1 h8 o8
      have o8 := o5.trans (o6.trans o8).ex1
      clear h5 h6 o6 o5
      refine rv_ixAll (fun d => ∃ v : Int, d = .int v ∧ 0 ≤ v ∧ v ≤ 100000) u0 u1 (ac ⟨_, rfl, by decide, by decide⟩ (ac ⟨_, rfl, by decide, by decide⟩ (ac ⟨_, rfl, by omega, by omega⟩ an))) ?_
      rintro _ ⟨br, rfl, br0, br1⟩
      clear t0 t1 u0 u1
      have h8 : Pu S8 p (n + 12) := h8.mono (by omega)
      walk_at "gr"
      refine ve_lc (vi_list ?_)
      walk_at "gr"
      refine ve_lst ?_
      walk_at "gr"
      refine ⟨_, .v, by show 3 ≤ 100000; decide, fun i acc S2 => ∃ x y z, acc = (mk3 x y z).map D.str ∧ (i ≤ 0 → x = false) ∧ (i ≤ 1 → y = false) ∧ (i ≤ 2 → z = false) ∧ Pu S2 p (n + 12 + (i : Nat)) ∧ Ex1 p S S2, ⟨false, false, false, rfl, fun _ => rfl, fun _ => rfl, fun _ => rfl, h8.mono (by omega), o8⟩, ?_, ?_⟩
      · rintro i d acc S2 hd ⟨x, y, z, rfl, hx, hy, hz, h2, o2⟩ _
        have hi : i < 3 := (List.getElem?_eq_some_iff.mp hd).1
        walk_at "gr"
        intro t S3 t0 t1 h3 o3
        have o3 := o2.trans o3.ex1
        match i, hd with
        | 0, hd =>
          cases hd
          have h3 : Pu S3 p (n + 12 + ((0 + 1 : Nat) : Int)) := h3.mono (by omega)
          obtain rfl := hx (Nat.le_refl _)
          obtain rfl := hy (by omega)
          obtain rfl := hz (by omega)
          walk_at "gr"
          refine ⟨fun e => ?_, fun e => ?_⟩
          · walk_at "gr"
            exact ⟨true, false, false, rfl, fun z => by omega, fun _ => rfl, fun _ => rfl, h3, o3⟩
          · exact ⟨false, false, false, rfl, fun z => by omega, fun _ => rfl, fun _ => rfl, h3, o3⟩
        | 1, hd =>
          cases hd
          have h3 : Pu S3 p (n + 12 + ((1 + 1 : Nat) : Int)) := h3.mono (by omega)
          obtain rfl := hy (by omega)
          obtain rfl := hz (by omega)
          walk_at "gr"
          refine ⟨fun e => ?_, fun e => ?_⟩
          · walk_at "gr"
            exact ⟨x, true, false, by cases x <;> rfl, fun z => by omega, fun z => by omega, fun _ => rfl, h3, o3⟩
          · exact ⟨x, false, false, rfl, fun z => by omega, fun z => by omega, fun _ => rfl, h3, o3⟩
        | 2, hd =>
          cases hd
          have h3 : Pu S3 p (n + 12 + ((2 + 1 : Nat) : Int)) := h3.mono (by omega)
          obtain rfl := hz (by omega)
          walk_at "gr"
          refine ⟨fun e => ?_, fun e => ?_⟩
          · walk_at "gr"
            exact ⟨x, y, true, by cases x <;> cases y <;> rfl, fun z => by omega, fun z => by omega, fun z => by omega, h3, o3⟩
          · exact ⟨x, y, false, rfl, fun z => by omega, fun z => by omega, fun z => by omega, h3, o3⟩
        | k + 3, hd => cases hd
      rintro acc S2 ⟨x, y, z, rfl, hx, hy, hz, h2, o2⟩ _
      have h2 : Pu S2 p (n + 20) := h2.mono (by show n + 12 + ((3 : Nat) : Int) ≤ _; omega)
      walk_at "gr"
      refine ve_lst ?_
      walk_at "gr"
      exact q ⟨nm, a, b, c, wl, wt, br, mk3 x y z⟩ S2 rfl ⟨⟨hnm.ok, hnm.1.1, ha, hb, hc, ⟨w0, w1⟩, ⟨wt0, wt1⟩, ⟨br0, br1⟩, mk3_mk x y z⟩, mk3_of x y z⟩ h2 o2) only [↓VS.box]
theorem ok__law_parcel {f : Addr} {fd : FuncData} {C_Measure C_Sides C_Parcel C_Heap C_NoNumber C_NoSize C_NoMeasure C_NoSide C_NoOrder C_NoSides : Addr} {f_Sides f_Parcel : Addr} {g_Sides g_Parcel : FuncData}
    (F : Fd K "_law_parcel" "_law_parcel" s__law_parcel [] f fd) (T : Tx K mg) (hsys : SysOk base)
    (c_Sides : Kf P w K mg base 3 "Sides" C_Sides "Sides.__init__" s_Sides___init__ [] a_Sides___init__ (p_Sides_init K C_Sides C_NoSide) f_Sides g_Sides)
    (c_Parcel : Kf P w K mg base 3 "Parcel" C_Parcel "Parcel.__init__" s_Parcel___init__ [.int 1, .int 0, .int 0, .non] a_Parcel___init__ (p_Pc_init C_Parcel C_Sides) f_Parcel g_Parcel)
    (k_Sides : Kl_Sides K mg C_Sides)
    (k_Parcel : Kl_Parcel K mg C_Parcel) :
    FnG P w K mg base (L2.CX P w) 5 f fd a__law_parcel (spOf K (p_parcel74 C_Parcel C_Sides)) := by
  refine VS.unbox ?_
  simp (disch := with_unfolding_all
    have kc_Sides := k_Sides.ins.cl
    have ka_Sides_three := k_Sides.a_three
    have kc_Parcel := k_Parcel.ins.cl
    have ka_Parcel_called := k_Parcel.a_called
    have ka_Parcel_outside := k_Parcel.a_outside
    have ka_Parcel_thick := k_Parcel.a_thick
    have ka_Parcel_heavy := k_Parcel.a_heavy
    have ka_Parcel_strong := k_Parcel.a_strong
    have ka_Parcel_marks := k_Parcel.a_marks
    refine fn_val F sc__law_parcel (fun ds S G Y h => ?_) (fun cdv A hgd outer s H E hr px tk po ds S G Y h => ?_)
    · obtain ⟨r, rfl, _⟩ := h
      rfl
    · obtain ⟨r, rfl, ⟨g, e⟩, q⟩ := h
      refine ⟨_, (pss_cons (ps_asg (pv 0) (pg_unl (n := 6) rfl (pgs_cons (pg_name (i := 1) sc__law_parcel.nd rfl (Or.inl rfl)) (pgs_cons (pg_unl (n := 3) rfl (pgs_cons (pg_name (i := 2) sc__law_parcel.nd rfl (Or.inl rfl)) (pgs_cons (pg_name (i := 3) sc__law_parcel.nd rfl (Or.inl rfl)) (pgs_cons (pg_name (i := 4) sc__law_parcel.nd rfl (Or.inl rfl)) pgs_nil)))) (pgs_cons (pg_name (i := 5) sc__law_parcel.nd rfl (Or.inl rfl)) (pgs_cons (pg_name (i := 6) sc__law_parcel.nd rfl (Or.inl rfl)) (pgs_cons (pg_name (i := 7) sc__law_parcel.nd rfl (Or.inl rfl)) (pgs_cons (pg_name (i := 8) sc__law_parcel.nd rfl (Or.inl rfl)) pgs_nil))))))))
        (pss_one (ps_ret (pe_kG c_Parcel.mk_ c_Parcel.fn hgd (hr.mono (by decide)) (by rfl) c_Parcel.mg  c_Parcel.b .nil VS.pass0 (pa_cons (pv 1) (pa_cons (pe_kG c_Sides.mk_ c_Sides.fn hgd (hr.mono (by decide)) (by rfl) c_Sides.mg  c_Sides.b .nil VS.pass0 (pa_cons (pv 2) (pa_cons (pv 3) (pa_cons (pv 4) pa_nil)))) (pa_cons (pv 5) (pa_cons (pv 6) (pa_cons (pv 7) (pa_cons (pv 8) pa_nil)))))))))), ?_⟩
      (try dsimp only [cxOf, List.map])
      show VX _ _ [_, _, _, _, _, _, _, _, _] _ _
      have ga := g.a
      have gb := g.b
      have gc := g.c
      unfold rwD
      walk_at "gr"
      refine vg_unl .v rfl ?_
      walk_at "gr"
      refine vg_unl .v rfl ?_
      walk_at "gr"
      refine ⟨r.nm, r.a, r.b, r.c, r.wl, r.wt, r.br, r.mk, rfl, g, ?_⟩
      rw [e]
      exact q) only [↓VS.box]
theorem ok__law_heap {f : Addr} {fd : FuncData} {C_Measure C_Sides C_Parcel C_Heap C_NoNumber C_NoSize C_NoMeasure C_NoSide C_NoOrder C_NoSides : Addr} {f_Heap f_Heap_put f__law_parcel : Addr} {g_Heap g_Heap_put g__law_parcel : FuncData}
    (F : Fd K "_law_heap" "_law_heap" s__law_heap [] f fd) (T : Tx K mg) (hsys : SysOk base)
    (c_Heap : Kf P w K mg base 1 "Heap" C_Heap "Heap.__init__" s_Heap___init__ [] a_Heap___init__ (p_Hp_init C_Heap) f_Heap g_Heap)
    (c_Heap_put : Mf P w K mg base 3 C_Heap "put" "Heap.put" s_Heap_put [.non] a_Heap_put (p_Hp_put C_Heap C_Parcel C_Sides) f_Heap_put g_Heap_put)
    (d_Heap_put2 : Bd K g_Heap_put a_Heap_put [.non])
    (c__law_parcel : Cf P w K mg base (L2.CX P w) 5 "_law_parcel" s__law_parcel [] a__law_parcel (p_parcel74 C_Parcel C_Sides) f__law_parcel g__law_parcel)
    (k_Heap : Kl_Heap K mg C_Heap)
    (k_Parcel : Kl_Parcel K mg C_Parcel)
    (k_Sides : Kl_Sides K mg C_Sides) :
    FnG P w K mg base (L2.CX P w) 6 f fd a__law_heap (spOf K (p_heap74 C_Heap C_Parcel C_Sides)) := by
  refine VS.unbox ?_
  simp (disch := with_unfolding_all
    have kc_Heap := k_Heap.ins.cl
    have ka_Heap_held := k_Heap.a_held
    have kc_Parcel := k_Parcel.ins.cl
    have ka_Parcel_called := k_Parcel.a_called
    have ka_Parcel_outside := k_Parcel.a_outside
    have ka_Parcel_thick := k_Parcel.a_thick
    have ka_Parcel_heavy := k_Parcel.a_heavy
    have ka_Parcel_strong := k_Parcel.a_strong
    have ka_Parcel_marks := k_Parcel.a_marks
    have kc_Sides := k_Sides.ins.cl
    have ka_Sides_three := k_Sides.a_three
    refine fn_val F sc__law_heap (fun ds S G Y h => ?_) (fun cdv A hgd outer s H E hr px tk po ds S G Y h => ?_)
    · obtain ⟨rs, rfl, _⟩ := h
      rfl
    · obtain ⟨rs, rfl, hrs, q⟩ := h
      refine ⟨_, (pss_cons (ps_set (i := 1) sc__law_heap.nd rfl (Or.inl rfl) (pe_kG0 c_Heap.mk_ c_Heap.fn hgd (hr.mono (by decide)) (by rfl) c_Heap.mg  c_Heap.b .nil VS.pass0))
        (pss_cons (ps_for po rfl (pi_list (pv 0)) (pg_name (i := 2) sc__law_heap.nd rfl (Or.inl rfl))
        (pss_one (ps_expr (pe_mG (pv 1) c_Heap_put.cl c_Heap_put.me c_Heap_put.fn hgd (hr.mono (by decide)) d_Heap_put2.b d_Heap_put2.v VS.pass0 (pa_cons (pe_cG c__law_parcel.fn hgd (hr.mono (by decide)) (by rfl) c__law_parcel.mg c__law_parcel.kp c__law_parcel.b .nil VS.pass0 (pa_cons (pv 2) pa_nil)) pa_nil)))))
        (pss_one (ps_ret (pv 1))))), ?_⟩
      (try dsimp only [cxOf, List.map])
      show VX _ _ [_, _, _] _ _
      refine vx_seq (vx_asg ?_)
      refine ve_mkHp ?_
      refine va_nil ?_
      refine ⟨rfl, fun h' l' S1 nh nl x1 a1 a2 => ?_⟩
      walk_at "gr"
      refine vx_for (vi_list ?_)
      walk_at "gr"
      refine ⟨_, .v, fun k ρ2 S2 => Ext S S2 ∧ HpS S2 C_Heap C_Parcel C_Sides h' l' (rs.take k) ∧ ∃ x2, ρ2 = [some (.lst (rs.map rwD)), some (.ref h'), x2], ⟨x1, ⟨a1, a2⟩, _, rfl⟩, ?_, ?_⟩
      · rintro k d ρ2 S2 hd ⟨x2, hs2, x3, rfl⟩
        rw [List.getElem?_map] at hd
        cases e : rs[k]? with
        | none => rw [e] at hd; cases hd
        | some r =>
          rw [e] at hd
          cases hd
          have hk : k < rs.length := (List.getElem?_eq_some_iff.mp e).1
          have h12 := hrs.l
          have tk : rs.take (k + 1) = rs.take k ++ [r] := by rw [List.take_succ, e]; rfl
          have c1 := hs2.1
          walk_at "gr"
          refine ve_mt (dds := [.non]) (XOk.none (E := noE)) (fun _ _ => .cons .non .nil) ?_
          walk_at "gr"
          refine ⟨r, rfl, hrs.g r (List.mem_of_getElem? e), ?_⟩
          walk_at "gr"
          refine ⟨h', l', rs.take k, r, rfl, hs2, ?_, ?_, ?_⟩
          · have : (rs.take k).length ≤ k := by rw [List.length_take]; omega
            omega
          · have hn := hrs.n
            have es : rs.map Pc.nm = (rs.take (k + 1)).map Pc.nm ++ (rs.drop (k + 1)).map Pc.nm := by rw [← List.map_append, List.take_append_drop]
            rw [es, tk, List.map_append, List.nodup_append] at hn
            have hn := hn.1
            rw [List.nodup_append] at hn
            exact fun z => hn.2.2 _ z _ (List.mem_singleton.mpr rfl) rfl
          · refine ⟨Ext.wr nl x2, ?_, _, rfl⟩
            rw [tk]
            exact hs2.set
      · rintro ρ2 S2 ⟨x2, hs2, x3, rfl⟩
        rw [List.length_map, List.take_length] at hs2
        walk_at "gr"
        exact q h' l' S2 nh nl x2 hs2) only [↓VS.box]
end
end LW
namespace LW
open PySem L2 C8 PySem.Spec PyProof.Rows VS
/-! ### a parcel's row, written either way -/
/-- a size's text -/
def ltX (us : List (Str × Int)) (i : Int) (z : Str) : Prop := ∃ ws, Lt us (some i) ws ∧ z = ltS ws
theorem ltX_asc {us : List (Str × Int)} {i : Int} {z : Str} (h : ltX us i z) (g : Ug us) : Asc 108 z := by
  obtain ⟨ws, h, rfl⟩ := h
  obtain ⟨a, b⟩ := h.b g
  exact Asc.join (n := 12) (m := 8) (k := 1) (Asc.lit (by decide +kernel)) b a
theorem joinL_app (S : List Nat) : ∀ (A B : List (List Nat)), A ≠ [] → B ≠ [] → TL.joinL S (A ++ B) = TL.joinL S A ++ (S ++ TL.joinL S B)
  | [], _, h, _ => absurd rfl h
  | [a], [], _, h => absurd rfl h
  | [a], b :: B, _, _ => by
    have e : TL.joinL S [a] = a := by simp [TL.joinL]
    rw [e]
    rfl
  | a :: a2 :: A, B, _, h => by
    have ih := joinL_app S (a2 :: A) B (List.cons_ne_nil _ _) h
    show a ++ (S ++ TL.joinL S (a2 :: A ++ B)) = a ++ (S ++ TL.joinL S (a2 :: A)) ++ (S ++ TL.joinL S B)
    rw [ih]
    simp only [List.append_assoc]
theorem tl_joinS (L : List Str) : (Txt.join " " L).cps.toList = TL.joinL [32] (L.map TL.tl) := by
  have e : (Txt.join " " L).cps.toList = TL.joinL (TL.tl " ") (L.map TL.tl) := (congrArg TL.tl (TL.join_eq " " L)).trans (TL.tl_join " " L)
  rw [e, show TL.tl (" " : Str) = [32] from by decide +kernel]
theorem tl_joinX (L : List Str) : (Txt.join " x " L).cps.toList = TL.joinL [32, 120, 32] (L.map TL.tl) := by
  have e : (Txt.join " x " L).cps.toList = TL.joinL (TL.tl " x ") (L.map TL.tl) := (congrArg TL.tl (TL.join_eq " x " L)).trans (TL.tl_join " x " L)
  rw [e, show TL.tl (" x " : Str) = [32, 120, 32] from by decide +kernel]
theorem tl_one (S a : List Nat) : TL.joinL S [a] = a := by simp [TL.joinL]
theorem tl_cons (S a b : List Nat) (L : List (List Nat)) : TL.joinL S (a :: b :: L) = a ++ (S ++ TL.joinL S (b :: L)) := rfl
theorem cutD_toS {α : Type} (f : α → D) (ws : List α) (k : Nat) : cutD (ws.map f) none (some (k : Int)) = (ws.take k).map f := by
  show ((ws.map f).drop 0).take (HT.sIx (ws.map f).length (ws.map f).length (some (k : Int)) - 0) = _
  rw [HT.sIx_nat, Nat.sub_zero, List.drop_zero, List.length_map, ← List.map_take]
  by_cases h : k ≤ ws.length
  · rw [Nat.min_eq_left h]
  · rw [Nat.min_eq_right (by omega), List.take_of_length_le (Nat.le_refl _), List.take_of_length_le (by omega)]
/-- the words of a row, the sizes as texts -/
def rtW (nm a b c w : Str) (wt br : Int) (ls : List Str) : List Str := [nm, Txt.join " x " [a, b, c], "wall", w, "weight", nS wt, "bears", nS br] ++ lbW ls
theorem ht_text {t : Ht} (ha : t.A ≠ []) (hb : t.B ≠ []) (hc : t.C ≠ []) (hw : t.W ≠ []) : htS t = Txt.join " " (rtW t.p.nm (ltS t.A) (ltS t.B) (ltS t.C) (ltS t.W) t.p.wt t.p.br t.ls) := by
  refine PySem.Str.ext' (Array.toList_inj.mp ?_)
  unfold htS
  rw [tl_joinS, tl_joinS]
  have eL : htW t = [t.p.nm] ++ (t.A ++ ([("x" : Str)] ++ (t.B ++ ([("x" : Str)] ++ (t.C ++ ([("wall" : Str)] ++ (t.W ++ (("weight" : Str) :: bkW t)))))))) := by unfold htW marksH; simp [glue]
  have eR : rtW t.p.nm (ltS t.A) (ltS t.B) (ltS t.C) (ltS t.W) t.p.wt t.p.br t.ls = t.p.nm :: Txt.join " x " [ltS t.A, ltS t.B, ltS t.C] :: "wall" :: ltS t.W :: ("weight" : Str) :: bkW t := rfl
  rw [eL, eR]
  have m1 : t.A.map TL.tl ≠ [] := fun z => ha (List.map_eq_nil_iff.mp z)
  have m2 : t.B.map TL.tl ≠ [] := fun z => hb (List.map_eq_nil_iff.mp z)
  have m3 : t.C.map TL.tl ≠ [] := fun z => hc (List.map_eq_nil_iff.mp z)
  have m4 : t.W.map TL.tl ≠ [] := fun z => hw (List.map_eq_nil_iff.mp z)
  have m5 : (("weight" : Str) :: bkW t).map TL.tl ≠ [] := by simp
  have x0 : [t.p.nm].map TL.tl ≠ [] := by simp
  have x1 : ([("x" : Str)].map TL.tl) ≠ [] := by simp
  have x2 : ([("wall" : Str)].map TL.tl) ≠ [] := by simp
  have apn : ∀ {X Y : List (List Nat)}, X ≠ [] → X ++ Y ≠ [] := fun h z => h (List.append_eq_nil_iff.mp z).1
  rw [List.map_append, List.map_append, List.map_append, List.map_append, List.map_append, List.map_append, List.map_append, List.map_append]
  rw [joinL_app [32] _ _ x0 (apn m1), joinL_app [32] _ _ m1 (apn x1), joinL_app [32] _ _ x1 (apn m2), joinL_app [32] _ _ m2 (apn x1), joinL_app [32] _ _ x1 (apn m3), joinL_app [32] _ _ m3 (apn x2), joinL_app [32] _ _ x2 (apn m4), joinL_app [32] _ _ m4 m5]
  have e1 : TL.tl ("x" : Str) = [120] := by decide +kernel
  have e7 : ∀ L : List Str, TL.tl (Txt.join " " L) = TL.joinL [32] (L.map TL.tl) := fun L => tl_joinS L
  have e8 : ∀ L : List Str, TL.tl (Txt.join " x " L) = TL.joinL [32, 120, 32] (L.map TL.tl) := fun L => tl_joinX L
  simp only [List.map_cons, List.map_nil, tl_one, tl_cons, e1, e8]
  unfold ltS
  simp only [e7, List.append_assoc, List.cons_append, List.nil_append]
theorem prS_rt (us : List (Str × Int)) (p : Pc) : prS us p = Txt.join " " (rtW p.nm (txS us p.a) (txS us p.b) (txS us p.c) (txS us p.wl) p.wt p.br p.mk) := rfl
theorem mksOf_perm {xs ys : List Str} (h : xs.Perm ys) : mksOf xs = mksOf ys := by
  unfold mksOf
  exact List.filter_congr fun m _ => by rw [decide_eq_decide]; exact h.mem_iff
theorem Mk.perm {xs ys : List Str} (h : xs.Perm ys) (m : Mk ys) : Mk xs := ⟨by rw [h.length_eq]; exact m.l, fun z hz => m.e z (h.mem_iff.mp hz), h.nodup_iff.mpr m.n⟩
/-- a row as its measure writes it -/
theorem pr_ht {us : List (Str × Int)} {p : Pc} (g : Ug us) (h : p.g) (e : mksOf p.mk = p.mk) : ∃ t, Htg us t ∧ t.p = p ∧ htS t = prS us p := by
  have wl := h.wl
  obtain ⟨A, ha, ea⟩ := lt_tx (us := us) (n := p.a) g ⟨by have := h.a.1; omega, by have := h.a.2; omega⟩
  obtain ⟨B, hb, eb⟩ := lt_tx (us := us) (n := p.b) g ⟨by have := h.b.1; omega, by have := h.b.2; omega⟩
  obtain ⟨C, hc, ec⟩ := lt_tx (us := us) (n := p.c) g ⟨by have := h.c.1; omega, by have := h.c.2; omega⟩
  obtain ⟨W, hw, ew⟩ := lt_tx (us := us) (n := p.wl) g ⟨by omega, by omega⟩
  refine ⟨⟨p, A, B, C, W, p.mk⟩, ⟨h, ha, hb, hc, hw, h.lb, e.symm⟩, rfl, ?_⟩
  rw [ht_text ha.ne hb.ne hc.ne hw.ne, prS_rt]
  show Txt.join " " (rtW p.nm (ltS A) (ltS B) (ltS C) (ltS W) p.wt p.br p.mk) = _
  rw [ea, eb, ec, ew]
theorem hp_hx {us : List (Str × Int)} (g : Ug us) : ∀ ps : List Pc, (∀ p ∈ ps, p.g ∧ mksOf p.mk = p.mk) → ∃ ts : List Ht, (∀ t ∈ ts, Htg us t) ∧ ts.map Ht.p = ps ∧ ts.map htS = ps.map (prS us)
  | [], _ => ⟨[], nofun, rfl, rfl⟩
  | p :: ps, h => by
    obtain ⟨ts, h1, h2, h3⟩ := hp_hx g ps fun x hx => h x (List.mem_cons_of_mem _ hx)
    obtain ⟨t, t1, t2, t3⟩ := pr_ht g (h p List.mem_cons_self).1 (h p List.mem_cons_self).2
    refine ⟨t :: ts, fun x hx => ?_, by rw [List.map_cons, h2, t2], by rw [List.map_cons, List.map_cons, h3, t3]⟩
    rcases List.mem_cons.mp hx with rfl | hx
    · exact t1
    · exact h1 x hx
/-- a heap's text as its measure writes it, read -/
theorem hp_hts {us : List (Str × Int)} {ps : List Pc} (g : Ug us) (h : Hps ps) (e : ∀ p ∈ ps, mksOf p.mk = p.mk) : ∃ ts, Hts us ts ∧ ts.map Ht.p = ps ∧ hxS ts = hpS us ps := by
  obtain ⟨ts, h1, h2, h3⟩ := hp_hx g ps fun p hp => ⟨h.g p hp, e p hp⟩
  refine ⟨ts, ⟨h1, ?_, by rw [h2]; exact h.n⟩, h2, by unfold hxS hpS; rw [h3]⟩
  have := congrArg List.length h2
  rw [List.length_map] at this
  rw [this]
  exact h.l
end LW
namespace LW
open PySem L2 C8 PySem.Spec PyProof.Rows VS
/-! ### a heap's text by the law, as a measure writes it -/
def p_written74 : Pt := fun ds S G _ => ∃ us ps, ds = [.lst (us.map uD), .lst (ps.map rwD)] ∧ Ug us ∧ (∀ p ∈ ps, p.g) ∧ ps.length ≤ 12 ∧ G (.str (hpS us ps)) S
theorem rt_asc {nm a b c w : Str} {wt br : Int} {ls : List Str} (hn : Asc 8 nm) (ha : Asc 108 a) (hb : Asc 108 b) (hc : Asc 108 c) (hw : Asc 108 w) (ht : 0 ≤ wt ∧ wt ≤ 100000) (hr : 0 ≤ br ∧ br ≤ 100000) (hl : Mk ls) : (∀ y ∈ rtW nm a b c w wt br ls, Asc 333 y) ∧ (rtW nm a b c w wt br ls).length ≤ 14 := by
  refine ⟨fun y hy => ?_, ?_⟩
  · unfold rtW at hy
    rcases List.mem_append.mp hy with hy | hy
    · simp only [List.mem_cons, List.not_mem_nil, or_false] at hy
      rcases hy with rfl | rfl | rfl | rfl | rfl | rfl | rfl | rfl
      · exact hn.mono (by decide)
      · exact (Asc.join (n := 3) (m := 108) (k := 3) (Asc.lit (by decide +kernel)) (by
          intro y hy
          simp only [List.mem_cons, List.not_mem_nil, or_false] at hy
          rcases hy with rfl | rfl | rfl <;> assumption) (Nat.le_refl _)).mono (by decide)
      · exact (Asc.lit (n := 4) (by decide +kernel)).mono (by decide)
      · exact hw.mono (by decide)
      · exact (Asc.lit (n := 6) (by decide +kernel)).mono (by decide)
      · exact (nS_asc ht.1 (by omega)).mono (by decide)
      · exact (Asc.lit (n := 5) (by decide +kernel)).mono (by decide)
      · exact (nS_asc hr.1 (by omega)).mono (by decide)
    · rcases lbW_mem hy with rfl | hy
      · exact (Asc.lit (n := 5) (by decide +kernel)).mono (by decide)
      · exact (labs_asc (hl.e y hy)).mono (by decide)
  · have := hl.l
    unfold rtW
    rw [List.length_append, lbW_len]
    show 8 + _ ≤ 14
    omega
section
variable {P : Program} {w : World} {K : PySem.W.Frag} {mg : Str → Option Value} {base : Heap}
theorem ok__law_written {f : Addr} {fd : FuncData} {C_Measure C_Sides C_Parcel C_Heap C_NoNumber C_NoSize C_NoMeasure C_NoSide C_NoOrder C_NoSides : Addr} {f__law_size : Addr} {g__law_size : FuncData}
    (F : Fd K "_law_written" "_law_written" s__law_written [] f fd) (T : Tx K mg) (hsys : SysOk base)
    (c__law_size : Cf P w K mg base (L2.CX P w) 1 "_law_size" s__law_size [] a__law_size p_size75 f__law_size g__law_size) :
    FnG P w K mg base (L2.CX P w) 2 f fd a__law_written (spOf K p_written74) := by
  refine VS.unbox ?_
  simp (disch := with_unfolding_all
    refine fn_val F sc__law_written (fun ds S G Y h => ?_) (fun cdv A hgd outer s H E hr px tk po ds S G Y h => ?_)
    · obtain ⟨us, ps, rfl, _⟩ := h
      rfl
    · obtain ⟨us, ps, rfl, g, hp, hl, q⟩ := h
      refine ⟨_, (pss_cons (ps_set (i := 2) sc__law_written.nd rfl (Or.inl rfl) (pe_lst pa_nil))
        (pss_cons (ps_for po rfl (pi_list (pv 1)) (pg_unl (n := 6) rfl (pgs_cons (pg_name (i := 3) sc__law_written.nd rfl (Or.inl rfl)) (pgs_cons (pg_name (i := 4) sc__law_written.nd rfl (Or.inl rfl)) (pgs_cons (pg_name (i := 5) sc__law_written.nd rfl (Or.inl rfl)) (pgs_cons (pg_name (i := 6) sc__law_written.nd rfl (Or.inl rfl)) (pgs_cons (pg_name (i := 7) sc__law_written.nd rfl (Or.inl rfl)) (pgs_cons (pg_name (i := 8) sc__law_written.nd rfl (Or.inl rfl)) pgs_nil)))))))
        (pss_cons (ps_set (i := 9) sc__law_written.nd rfl (Or.inl rfl) (pe_m1 PySem.F.slot_str_join PySem.F.type_str_join m_join pe_str (pe_lc (own := [("_law_side", 12)]) rfl sc__law_written.nd (pi_list (pv 4)) (blkOk_by (own := [("_law_side", 12)]) (N := n__law_written) (sc := defScope s__law_written) (by decide +kernel)) (fun _ _ _ _ _ => (pg_name (i := 12) sc__law_written.nd rfl (Or.inl rfl))) (fun _ _ _ _ _ => pts_nil) (fun _ _ _ _ _ => (pe_cG c__law_size.fn hgd (hr.mono (by decide)) (by rfl) c__law_size.mg c__law_size.kp c__law_size.b .nil VS.pass0 (pa_cons (pv 0) (pa_cons (pv 12) pa_nil)))))))
        (pss_cons (ps_set (i := 10) sc__law_written.nd rfl (Or.inl rfl) (pe_lst (pa_cons (pv 3) (pa_cons (pv 9) (pa_cons pe_str (pa_cons (pe_cG c__law_size.fn hgd (hr.mono (by decide)) (by rfl) c__law_size.mg c__law_size.kp c__law_size.b .nil VS.pass0 (pa_cons (pv 0) (pa_cons (pv 5) pa_nil))) (pa_cons pe_str (pa_cons (pe_callTy c_strInt (by rfl) T.b_str (by decide +kernel) (pa_cons (pv 6) pa_nil)) (pa_cons pe_str (pa_cons (pe_callTy c_strInt (by rfl) T.b_str (by decide +kernel) (pa_cons (pv 7) pa_nil)) pa_nil))))))))))
        (pss_cons (ps_for po rfl (pi_list (pv 8)) (pg_name (i := 11) sc__law_written.nd rfl (Or.inl rfl))
        (pss_one (ps_set (i := 10) sc__law_written.nd rfl (Or.inl rfl) (pe_op op_cat (pv 10) (pe_lst (pa_cons pe_str (pa_cons (pv 11) pa_nil)))))))
        (pss_one (ps_expr (pe_bm PySem.F.plainAttrs_list PySem.F.slot_list_append PySem.F.type_list_append mt_append (pv 2) (pa_cons (pe_m1 PySem.F.slot_str_join PySem.F.type_str_join m_join pe_str (pv 10)) pa_nil))))))))
        (pss_one (ps_ret (pe_m1 PySem.F.slot_str_join PySem.F.type_str_join m_join pe_str (pv 2)))))), ?_⟩
      (try dsimp only [cxOf, List.map])
      show VX _ _ [_, _, _, _, _, _, _, _, _, _, _, _, _] _ _
      have sz := szl
      walk_at "gr"
      refine ve_lstc ?_
      walk_at "gr"
      intro l nl
      have c0 : VS.put S l (.lst []) = VS.put S l (.lst (((ps.take 0).map (prS us)).map D.str)) := rfl
      rw [c0]
      walk_at "gr"
      refine vx_for (vi_list ?_)
      walk_at "gr"
      refine ⟨_, .v, fun i ρ2 S2 => S2 = VS.put S l (.lst (((ps.take i).map (prS us)).map D.str)) ∧ ∃ x3 x4 x5 x6 x7 x8 x9 x10 x11, ρ2 = [some (.lst (us.map uD)), some (.lst (ps.map rwD)), some (.ref l), x3, x4, x5, x6, x7, x8, x9, x10, x11, none], ⟨rfl, _, _, _, _, _, _, _, _, _, rfl⟩, ?_, ?_⟩
      · rintro i d ρ2 S2 hd ⟨rfl, x3, x4, x5, x6, x7, x8, x9, x10, x11, rfl⟩
        rw [List.getElem?_map] at hd
        obtain ⟨p, hpi, rfl⟩ := Option.map_eq_some_iff.mp hd
        have hi : i < ps.length := (List.getElem?_eq_some_iff.mp hpi).1
        have tk : ps.take (i + 1) = ps.take i ++ [p] := by rw [List.take_succ, hpi]; rfl
        have gp := hp p (List.mem_of_getElem? hpi)
        have wl := gp.wl
        have wt := gp.wt
        have br := gp.br
        have ta := txS_asc g (n := p.a) ⟨by have := gp.a.1; omega, by have := gp.a.2; omega⟩
        have tb := txS_asc g (n := p.b) ⟨by have := gp.b.1; omega, by have := gp.b.2; omega⟩
        have tc := txS_asc g (n := p.c) ⟨by have := gp.c.1; omega, by have := gp.c.2; omega⟩
        have tw := txS_asc g (n := p.wl) ⟨by omega, by omega⟩
        have ra := rt_asc (ls := p.mk) gp.asc ta tb tc tw gp.wt gp.br gp.lb
        have ml := gp.lb.l
        have a1 := gp.a
        have b1 := gp.b
        have c1 := gp.c
        unfold rwD
        clear hd
        refine vg_unl .v rfl ?_
        walk_at "gr"
        refine ve_lcM (txD us) (vi_list ?_)
        walk_at "gr"
        refine ⟨[.int p.a, .int p.b, .int p.c], .v, by show 3 ≤ 100000; decide, fun d hd => ?_, ?_⟩
        · obtain ⟨k, rfl, hk⟩ : ∃ k, d = .int k ∧ In1 k := by
            simp only [List.mem_cons, List.not_mem_nil, or_false] at hd
            rcases hd with rfl | rfl | rfl
            · exact ⟨_, rfl, a1⟩
            · exact ⟨_, rfl, b1⟩
            · exact ⟨_, rfl, c1⟩
          walk_at "gr"
          refine ⟨rfl, ?_⟩
          walk_at "gr"
          exact ⟨us, k, rfl, g, by have := hk.1; omega, by have := hk.2; omega, rfl, rfl⟩
        rw [show ([D.int p.a, .int p.b, .int p.c].map (txD us)) = [txS us p.a, txS us p.b, txS us p.c].map D.str from rfl]
        have l3 : (Str.ofString " x ").length = 3 := by decide
        have a2 := ta.1
        have b2 := tb.1
        have c2 := tc.1
        walk_at "gr"
        refine rm_join (ys := [txS us p.a, txS us p.b, txS us p.c]) (.l .v) (by simp only [List.map_cons, List.map_nil, List.sum_cons, List.sum_nil, List.length_cons, List.length_nil]; rw [l3]; omega) ?_
        walk_at "gr"
        refine ve_lst ?_
        walk_at "gr"
        refine ⟨us, p.wl, rfl, g, by omega, by omega, ?_⟩
        walk_at "gr"
        refine vx_for (vi_list ?_)
        walk_at "gr"
        refine ⟨_, .v, fun j ρ3 S3 => S3 = VS.put S l (.lst (((ps.take i).map (prS us)).map D.str)) ∧ ∃ x11, ρ3 = [some (.lst (us.map uD)), some (.lst (ps.map rwD)), some (.ref l), some (.str p.nm), some (.lst [.int p.a, .int p.b, .int p.c]), some (.int p.wl), some (.int p.wt), some (.int p.br), some (.lst (p.mk.map D.str)), some (.str (Txt.join " x " [txS us p.a, txS us p.b, txS us p.c])), some (.lst ((rtW p.nm (txS us p.a) (txS us p.b) (txS us p.c) (txS us p.wl) p.wt p.br (p.mk.take j)).map D.str)), x11, none], ⟨rfl, _, rfl⟩, ?_, ?_⟩
        · rintro j d ρ3 S3 hd ⟨rfl, y11, rfl⟩
          rw [List.getElem?_map] at hd
          obtain ⟨y, hy, rfl⟩ := Option.map_eq_some_iff.mp hd
          have hj : j < p.mk.length := (List.getElem?_eq_some_iff.mp hy).1
          have tk2 : p.mk.take (j + 1) = p.mk.take j ++ [y] := by rw [List.take_succ, hy]; rfl
          have tl : (rtW p.nm (txS us p.a) (txS us p.b) (txS us p.c) (txS us p.wl) p.wt p.br (p.mk.take j)).length ≤ 14 := by
            unfold rtW
            rw [List.length_append, lbW_len, List.length_take]
            show 8 + _ ≤ 14
            omega
          have em : (rtW p.nm (txS us p.a) (txS us p.b) (txS us p.c) (txS us p.wl) p.wt p.br (p.mk.take (j + 1))).map D.str = (rtW p.nm (txS us p.a) (txS us p.b) (txS us p.c) (txS us p.wl) p.wt p.br (p.mk.take j)).map D.str ++ [.str "label", .str y] := by
            unfold rtW
            rw [tk2, lbW_app, ← List.append_assoc, List.map_append (l₂ := [("label" : Str), y])]
            rfl
          clear hd
          walk_at "gr"
          refine ve_lst ?_
          walk_at "gr"
          refine rv_cat (es := [.str "label", .str y]) .v .v (by rw [List.length_map]; show _ + 2 ≤ sizeLine; omega) ?_
          rw [← em]
          walk_at "gr"
          exact ⟨rfl, _, rfl⟩
        · rintro ρ3 S3 ⟨rfl, y11, rfl⟩
          rw [List.length_map, List.take_length]
          walk_at "gr"
          refine rm_join (ys := rtW p.nm (txS us p.a) (txS us p.b) (txS us p.c) (txS us p.wl) p.wt p.br p.mk) (.l .v) ?_ ?_
          · have k1 := sum_asc ra.1
            have k3 := Nat.mul_le_mul_left 333 ra.2
            rw [show (Str.ofString " ").length = 1 from by decide]
            have := ra.2
            omega
          walk_at "gr"
          refine rm_append put_same (by rw [List.length_map, List.length_map, List.length_take]; omega) ?_
          rw [put_put]
          refine ⟨?_, _, _, _, _, _, _, _, _, _, rfl⟩
          rw [tk, List.map_append, List.map_append]
          rfl
      · rintro ρ2 S2 ⟨rfl, x3, x4, x5, x6, x7, x8, x9, x10, x11, rfl⟩
        rw [List.length_map, List.take_length]
        refine vx_freeze 2 rfl put_same ?_
        rw [del_put nl]
        walk_at "gr"
        refine rm_join (ys := ps.map (prS us)) (.l .v) ?_ q
        have k3 := hp_sum g ps hp
        rw [List.length_map, show (Str.ofString "\n").length = 1 from by decide]
        omega) only [↓VS.box]
end
end LW
namespace LW
open PySem L2 C8 PySem.Spec PyProof.Rows VS
/-! ### a heap's text by the law, as no measure need write it -/
def p_loose_text74 : Pt := fun ds S G _ => ∃ (p : Addr) (n : Int) (us : List (Str × Int)) (ps : List Pc) (sh : Bool), ds = [.ref p, .lst (us.map uD), .lst (ps.map rwD), .bl sh] ∧ Pu S p n ∧ n < 800000 ∧ Ug us ∧ (∀ r ∈ ps, Rwg r) ∧ ps.length ≤ 12 ∧
  ∀ (ts : List Ht) S', ts.map Ht.p = ps → (∀ t ∈ ts, Htg us t) → Pu S' p (n + 400) → Off p S S' → G (.str (hxS ts)) S'
theorem ht_rt {us : List (Str × Int)} {t : Ht} (h : Htg us t) : htS t = Txt.join " " (rtW t.p.nm (ltS t.A) (ltS t.B) (ltS t.C) (ltS t.W) t.p.wt t.p.br t.ls) := ht_text h.a.ne h.b.ne h.c.ne h.w.ne
theorem ts_sum {us : List (Str × Int)} (g : Ug us) : ∀ ts : List Ht, (∀ t ∈ ts, Htg us t) → ((ts.map htS).map (·.length)).sum ≤ 558 * ts.length
  | [], _ => Nat.le_refl _
  | t :: ts, h => by
    have k1 := (ht_asc (h t List.mem_cons_self) g).1
    have k2 := ts_sum g ts fun z hz => h z (List.mem_cons_of_mem _ hz)
    rw [List.map_cons, List.map_cons, List.sum_cons, List.length_cons]
    omega
section
variable {P : Program} {w : World} {K : PySem.W.Frag} {mg : Str → Option Value} {base : Heap}
theorem ok__law_loose_text {f : Addr} {fd : FuncData} {C_Measure C_Sides C_Parcel C_Heap C_NoNumber C_NoSize C_NoMeasure C_NoSide C_NoOrder C_NoSides : Addr} {f__law_loose f__law_take : Addr} {g__law_loose g__law_take : FuncData}
    (F : Fd K "_law_loose_text" "_law_loose_text" s__law_loose_text [] f fd) (T : Tx K mg) (hsys : SysOk base)
    (c__law_loose : Cf P w K mg base (L2.CX P w) 2 "_law_loose" s__law_loose [] a__law_loose p_loose74 f__law_loose g__law_loose)
    (c__law_take : Cf P w K mg base (L2.CX P w) 1 "_law_take" s__law_take [] a__law_take p__law_take f__law_take g__law_take) :
    FnG P w K mg base (L2.CX P w) 3 f fd a__law_loose_text (spOf K p_loose_text74) := by
  refine VS.unbox ?_
  simp (disch := with_unfolding_all
    refine fn_val F sc__law_loose_text (fun ds S G Y h => ?_) (fun cdv A hgd outer s H E hr px tk po ds S G Y h => ?_)
    · obtain ⟨p, n, us, ps, sh, rfl, _⟩ := h
      rfl
    · obtain ⟨p, n, us, ps, sh, rfl, hp, hn, g, hps, hl, q⟩ := h
      refine ⟨_, (pss_cons (ps_set (i := 4) sc__law_loose_text.nd rfl (Or.inl rfl) (pe_lst pa_nil))
        (pss_cons (ps_for po rfl (pi_list (pv 2)) (pg_unl (n := 6) rfl (pgs_cons (pg_name (i := 5) sc__law_loose_text.nd rfl (Or.inl rfl)) (pgs_cons (pg_name (i := 6) sc__law_loose_text.nd rfl (Or.inl rfl)) (pgs_cons (pg_name (i := 7) sc__law_loose_text.nd rfl (Or.inl rfl)) (pgs_cons (pg_name (i := 8) sc__law_loose_text.nd rfl (Or.inl rfl)) (pgs_cons (pg_name (i := 9) sc__law_loose_text.nd rfl (Or.inl rfl)) (pgs_cons (pg_name (i := 10) sc__law_loose_text.nd rfl (Or.inl rfl)) pgs_nil)))))))
        (pss_cons (ps_set (i := 11) sc__law_loose_text.nd rfl (Or.inl rfl) (pe_m1 PySem.F.slot_str_join PySem.F.type_str_join m_join pe_str (pe_lc (own := [("_law_side", 17)]) rfl sc__law_loose_text.nd (pi_list (pv 6)) (blkOk_by (own := [("_law_side", 17)]) (N := n__law_loose_text) (sc := defScope s__law_loose_text) (by decide +kernel)) (fun _ _ _ _ _ => (pg_name (i := 17) sc__law_loose_text.nd rfl (Or.inl rfl))) (fun _ _ _ _ _ => pts_nil) (fun _ _ _ _ _ => (pe_cG c__law_loose.fn hgd (hr.mono (by decide)) (by rfl) c__law_loose.mg c__law_loose.kp c__law_loose.b .nil VS.pass0 (pa_cons (pv 0) (pa_cons (pv 1) (pa_cons (pv 17) (pa_cons (pv 3) pa_nil)))))))))
        (pss_cons (ps_set (i := 12) sc__law_loose_text.nd rfl (Or.inl rfl) (pe_cG c__law_loose.fn hgd (hr.mono (by decide)) (by rfl) c__law_loose.mg c__law_loose.kp c__law_loose.b .nil VS.pass0 (pa_cons (pv 0) (pa_cons (pv 1) (pa_cons (pv 7) (pa_cons (pv 3) pa_nil))))))
        (pss_cons (ps_set (i := 13) sc__law_loose_text.nd rfl (Or.inl rfl) (pe_lst (pa_cons (pv 5) (pa_cons (pv 11) (pa_cons pe_str (pa_cons (pv 12) (pa_cons pe_str (pa_cons (pe_callTy c_strInt (by rfl) T.b_str (by decide +kernel) (pa_cons (pv 8) pa_nil)) (pa_cons pe_str (pa_cons (pe_callTy c_strInt (by rfl) T.b_str (by decide +kernel) (pa_cons (pv 9) pa_nil)) pa_nil))))))))))
        (pss_cons (ps_set (i := 14) sc__law_loose_text.nd rfl (Or.inl rfl) (pe_cG c__law_take.fn hgd (hr.mono (by decide)) (by rfl) c__law_take.mg c__law_take.kp c__law_take.b .nil VS.pass0 (pa_cons (pv 0) (pa_cons pe_int pa_nil))))
        (pss_cons (ps_set (i := 15) sc__law_loose_text.nd rfl (Or.inl rfl) (pe_op op_cat (pe_slice sl_list (pv 10) (po_some (pv 14)) po_none) (pe_slice sl_list (pv 10) po_none (po_some (pv 14)))))
        (pss_cons (ps_if (pt_cmpR op_eq (pe_cG c__law_take.fn hgd (hr.mono (by decide)) (by rfl) c__law_take.mg c__law_take.kp c__law_take.b .nil VS.pass0 (pa_cons (pv 0) (pa_cons pe_int pa_nil))) pe_int (nomark _)) (pss_one (ps_set (i := 15) sc__law_loose_text.nd rfl (Or.inl rfl) (pe_revL (pv 15))))
        pss_nil)
        (pss_cons (ps_for po rfl (pi_list (pv 15)) (pg_name (i := 16) sc__law_loose_text.nd rfl (Or.inl rfl))
        (pss_one (ps_set (i := 13) sc__law_loose_text.nd rfl (Or.inl rfl) (pe_op op_cat (pv 13) (pe_lst (pa_cons pe_str (pa_cons (pv 16) pa_nil)))))))
        (pss_one (ps_expr (pe_bm PySem.F.plainAttrs_list PySem.F.slot_list_append PySem.F.type_list_append mt_append (pv 4) (pa_cons (pe_m1 PySem.F.slot_str_join PySem.F.type_str_join m_join pe_str (pv 13)) pa_nil))))))))))))
        (pss_one (ps_ret (pe_m1 PySem.F.slot_str_join PySem.F.type_str_join m_join pe_str (pv 4)))))), ?_⟩
      (try dsimp only [cxOf, List.map])
      show VX _ _ [_, _, _, _, _, _, _, _, _, _, _, _, _, _, _, _, _, _] _ _
      have sz := szl
      walk_at "gr"
      refine ve_lstc ?_
      walk_at "gr"
      intro ll hll
      have npl := hp.ne hll
      have h0 : Pu (put S ll (.lst [])) p n := hp.put hll
      have c0 : put S ll (.lst []) ll = some (.lst ((([] : List Ht).map htS).map D.str)) := put_same
      have o0 : ∀ q, q ≠ p → q ≠ ll → put S ll (.lst []) q = S q := fun q _ n2 => put_ne n2
      generalize put S ll (.lst []) = S0 at h0 c0 o0 ⊢
      clear hp
      walk_at "gr"
      refine vx_for (vi_list ?_)
      walk_at "gr"
      refine ⟨_, .v, fun i ρ2 S2 => ∃ (ts : List Ht) (x5 x6 x7 x8 x9 x10 x11 x12 x13 x14 x15 x16 : Option D), ρ2 = [some (.ref p), some (.lst (us.map uD)), some (.lst (ps.map rwD)), some (.bl sh), some (.ref ll), x5, x6, x7, x8, x9, x10, x11, x12, x13, x14, x15, x16, none] ∧ ts.map Ht.p = ps.take i ∧ (∀ t ∈ ts, Htg us t) ∧ S2 ll = some (.lst ((ts.map htS).map D.str)) ∧
        Pu S2 p (n + 30 * (i : Nat)) ∧ (∀ q, q ≠ p → q ≠ ll → S2 q = S q), ⟨[], _, _, _, _, _, _, _, _, _, _, _, _, rfl, rfl, nofun, c0, h0.mono (by omega), o0⟩, ?_, ?_⟩
      · clear h0 c0 o0
        rintro i d ρ2 S2 hd ⟨ts, x5, x6, x7, x8, x9, x10, x11, x12, x13, x14, x15, x16, rfl, ht, hg, c2, h2, o2⟩
        rw [List.getElem?_map] at hd
        obtain ⟨r, hr, rfl⟩ := Option.map_eq_some_iff.mp hd
        have hi : i < ps.length := (List.getElem?_eq_some_iff.mp hr).1
        have tk : ps.take (i + 1) = ps.take i ++ [r] := by rw [List.take_succ, hr]; rfl
        obtain ⟨gr, er⟩ := hps r (List.mem_of_getElem? hr)
        have lts : ts.length = i := by rw [← List.length_map (f := Ht.p), ht, List.length_take]; omega
        have wl := gr.wl
        have wt := gr.wt
        have br := gr.br
        have ml := gr.lb.l
        have ga := gr.a
        have gb := gr.b
        have gc := gr.c
        clear hd
        show VG _ _ (.lst [.str r.nm, .lst [.int r.a, .int r.b, .int r.c], .int r.wl, .int r.wt, .int r.br, .lst (r.mk.map D.str)]) _ _ _
        refine vg_unl .v rfl ?_
        walk_at "gr"
        refine ve_lc (vi_list ?_)
        walk_at "gr"
        have sd3 : ∀ (k : Nat) (x : D), [D.int r.a, .int r.b, .int r.c][k]? = some x → ∃ v : Int, x = .int v ∧ [r.a, r.b, r.c][k]? = some v ∧ In1 v := fun k x e => by
          have e2 : ([r.a, r.b, r.c].map D.int)[k]? = some x := e
          rw [List.getElem?_map] at e2
          obtain ⟨v, hv, rfl⟩ := Option.map_eq_some_iff.mp e2
          refine ⟨v, rfl, hv, ?_⟩
          have := List.mem_of_getElem? hv
          simp only [List.mem_cons, List.not_mem_nil, or_false] at this
          rcases this with rfl | rfl | rfl <;> assumption
        refine ⟨[.int r.a, .int r.b, .int r.c], .v, by show 3 ≤ 100000; decide, fun j acc S3 => ∃ zs : List Str, acc = zs.map D.str ∧ zs.length = j ∧ (∀ (k : Nat) v z, [r.a, r.b, r.c][k]? = some v → zs[k]? = some z → ltX us v z) ∧ S3 ll = some (.lst ((ts.map htS).map D.str)) ∧ Pu S3 p (n + 30 * (i : Nat) + 5 * (j : Nat)) ∧ (∀ q, q ≠ p → q ≠ ll → S3 q = S q), ⟨[], rfl, rfl, fun k v z _ e => (by cases e), c2, h2.mono (by omega), o2⟩, ?_, ?_⟩
        · rintro j d acc S3 hd ⟨zs, rfl, lz, hz, c3, h3, o3⟩ _
          obtain ⟨v, rfl, hv, gv⟩ := sd3 j d hd
          have hj : j < 3 := (List.getElem?_eq_some_iff.mp hv).1
          walk_at "gr"
          refine ⟨p, _, us, v, sh, rfl, h3, by omega, g, by have := gv.1; omega, by have := gv.2; omega, fun uts rr S4 e1 e2 e3 h4 o4 => ?_⟩
          obtain ⟨ws, k1, k2⟩ := lt_wr e1 e2 e3 (by have := gv.2; omega)
          refine ⟨zs ++ [wrS uts rr], by rw [List.map_append] <;> rfl, by rw [List.length_append, lz]; rfl, fun k v' z' e4 e5 => ?_, (o4 ll npl.symm).trans c3, h4.mono (by push_cast; omega), fun q n1 n2 => (o4 q n1).trans (o3 q n1 n2)⟩
          rcases Nat.lt_or_ge k zs.length with lt | ge
          · rw [List.getElem?_append_left lt] at e5
            exact hz k v' z' e4 e5
          · rw [List.getElem?_append_right ge] at e5
            cases hk : k - zs.length with
            | zero =>
              rw [hk] at e5
              cases e5
              have : k = j := by omega
              subst this
              rw [hv] at e4
              cases e4
              exact ⟨ws, k1, k2.symm⟩
            | succ m => rw [hk] at e5; cases e5
        clear c2 h2 o2
        rintro acc S3 ⟨zs, rfl, lz, hz, c3, h3, o3⟩ _
        have h3 : Pu S3 p (n + 30 * (i : Nat) + 15) := h3.mono (by show n + 30 * (i : Int) + 5 * ((3 : Nat) : Int) ≤ _; omega)
        obtain ⟨za, zb, zc, rfl⟩ : ∃ a b c, zs = [a, b, c] := by
          match zs, (show zs.length = 3 from lz) with
          | [a, b, c], _ => exact ⟨a, b, c, rfl⟩
        have xa := hz 0 r.a za rfl rfl
        have xb := hz 1 r.b zb rfl rfl
        have xc := hz 2 r.c zc rfl rfl
        clear hz lz sd3
        have ta := ltX_asc xa g
        have tb := ltX_asc xb g
        have tc := ltX_asc xc g
        have l3 : (Str.ofString " x ").length = 3 := by decide
        have a2 := ta.1
        have b2 := tb.1
        have c2 := tc.1
        walk_at "gr"
        refine rm_join (ys := [za, zb, zc]) (.l .v) (by simp only [List.map_cons, List.map_nil, List.sum_cons, List.sum_nil, List.length_cons, List.length_nil]; rw [l3]; omega) ?_
        walk_at "gr"
        refine ⟨p, _, us, r.wl, sh, rfl, h3, by omega, g, by omega, by omega, fun uts rr S4 e1 e2 e3 h4 o4 => ?_⟩
        obtain ⟨ws, k1, k2⟩ := lt_wr e1 e2 e3 (by omega)
        have xw : ltX us r.wl (wrS uts rr) := ⟨ws, k1, k2.symm⟩
        have c4 := (o4 ll npl.symm).trans c3
        have o4 : ∀ q, q ≠ p → q ≠ ll → S4 q = S q := fun q n1 n2 => (o4 q n1).trans (o3 q n1 n2)
        clear c3 h3 o3 e1 e2 e3 k1 k2
        generalize wrS uts rr = zw at xw ⊢
        have tw := ltX_asc xw g
        walk_at "gr"
        refine ve_lst ?_
        walk_at "gr"
        intro t S5 t0 t1 h5 o5
        obtain ⟨k, rfl⟩ := Int.eq_ofNat_of_zero_le t0
        have c5 := (o5 ll npl.symm).trans c4
        have o5 : ∀ q, q ≠ p → q ≠ ll → S5 q = S q := fun q n1 n2 => (o5 q n1).trans (o4 q n1 n2)
        clear c4 h4 o4
        walk_at "gr"
        refine rs_list .v ?_
        walk_at "gr"
        refine rs_list .v ?_
        rw [cutD_from, cutD_toS]
        refine rv_cat .v .v (by rw [List.length_map, List.length_map, List.length_drop, List.length_take]; omega) ?_
        rw [← List.map_append]
        have hp1 : (r.mk.drop k ++ r.mk.take k).Perm r.mk := List.perm_append_comm.trans (by rw [List.take_append_drop])
        generalize r.mk.drop k ++ r.mk.take k = ls0 at hp1 ⊢
        refine vg_name ?_
        refine vx_join (fun ρ' S' => ∃ ls : List Str, ls.Perm r.mk ∧ S' ll = some (.lst ((ts.map htS).map D.str)) ∧ Pu S' p (n + 30 * (i : Nat) + 25) ∧ (∀ q, q ≠ p → q ≠ ll → S' q = S q) ∧
          ρ' = [some (.ref p), some (.lst (us.map uD)), some (.lst (ps.map rwD)), some (.bl sh), some (.ref ll), some (.str r.nm), some (.lst [.int r.a, .int r.b, .int r.c]), some (.int r.wl), some (.int r.wt), some (.int r.br), some (.lst (r.mk.map D.str)), some (.str (Txt.join " x " [za, zb, zc])), some (.str zw), some (.lst ((rtW r.nm za zb zc zw r.wt r.br []).map D.str)), some (.int (k : Nat)), some (.lst (ls.map D.str)), x16, none]) ?_ ?_
        · walk_at "gr"
          intro t S6 u0 u1 h6 o6
          have c6 := (o6 ll npl.symm).trans c5
          have o6 : ∀ q, q ≠ p → q ≠ ll → S6 q = S q := fun q n1 n2 => (o6 q n1).trans (o5 q n1 n2)
          walk_at "gr"
          refine VS.br (fun e => ?_) (fun e => ?_)
          · walk_at "gr"
            refine ve_revL ?_
            walk_at "gr"
            refine ⟨_, .v, ?_⟩
            rw [← List.map_reverse]
            walk_at "gr"
            exact ⟨_, ls0.reverse_perm.trans hp1, c6, h6.mono (by omega), o6, rfl⟩
          · walk_at "gr"
            exact ⟨_, hp1, c6, h6.mono (by omega), o6, rfl⟩
        clear c5 h5 o5 hp1
        rintro _ S6 ⟨ls, pl, c6, h6, o6, rfl⟩
        have mk := Mk.perm pl gr.lb
        have l3' := mk.l
        walk_at "gr"
        refine vx_for (vi_list ?_)
        walk_at "gr"
        refine ⟨_, .v, fun j ρ3 S3 => S3 = S6 ∧ ∃ y16, ρ3 = [some (.ref p), some (.lst (us.map uD)), some (.lst (ps.map rwD)), some (.bl sh), some (.ref ll), some (.str r.nm), some (.lst [.int r.a, .int r.b, .int r.c]), some (.int r.wl), some (.int r.wt), some (.int r.br), some (.lst (r.mk.map D.str)), some (.str (Txt.join " x " [za, zb, zc])), some (.str zw), some (.lst ((rtW r.nm za zb zc zw r.wt r.br (ls.take j)).map D.str)), some (.int (k : Nat)), some (.lst (ls.map D.str)), y16, none], ⟨rfl, _, rfl⟩, ?_, ?_⟩
        · rintro j d ρ3 S3 hd ⟨rfl, y16, rfl⟩
          rw [List.getElem?_map] at hd
          obtain ⟨y, hy, rfl⟩ := Option.map_eq_some_iff.mp hd
          have hj : j < ls.length := (List.getElem?_eq_some_iff.mp hy).1
          have tk2 : ls.take (j + 1) = ls.take j ++ [y] := by rw [List.take_succ, hy]; rfl
          have tl : (rtW r.nm za zb zc zw r.wt r.br (ls.take j)).length ≤ 14 := by
            unfold rtW
            rw [List.length_append, lbW_len, List.length_take]
            show 8 + _ ≤ 14
            omega
          have em : (rtW r.nm za zb zc zw r.wt r.br (ls.take (j + 1))).map D.str = (rtW r.nm za zb zc zw r.wt r.br (ls.take j)).map D.str ++ [.str "label", .str y] := by
            unfold rtW
            rw [tk2, lbW_app, ← List.append_assoc, List.map_append (l₂ := [("label" : Str), y])]
            rfl
          clear hd
          walk_at "gr"
          refine ve_lst ?_
          walk_at "gr"
          refine rv_cat (es := [.str "label", .str y]) .v .v (by rw [List.length_map]; show _ + 2 ≤ sizeLine; omega) ?_
          rw [← em]
          walk_at "gr"
          exact ⟨rfl, _, rfl⟩
        · rintro ρ3 S3 ⟨rfl, y16, rfl⟩
          rw [List.length_map, List.take_length]
          obtain ⟨A, hA, rfl⟩ := xa
          obtain ⟨B, hB, rfl⟩ := xb
          obtain ⟨C, hC, rfl⟩ := xc
          obtain ⟨W, hW, rfl⟩ := xw
          have gt : Htg us ⟨r, A, B, C, W, ls⟩ := ⟨gr, hA, hB, hC, hW, mk, by rw [mksOf_perm pl]; exact er.symm⟩
          have ra := rt_asc (ls := ls) gr.asc ta tb tc tw gr.wt gr.br mk
          walk_at "gr"
          refine rm_join (ys := rtW r.nm (ltS A) (ltS B) (ltS C) (ltS W) r.wt r.br ls) (.l .v) ?_ ?_
          · have k1 := sum_asc ra.1
            have k3 := Nat.mul_le_mul_left 333 ra.2
            rw [show (Str.ofString " ").length = 1 from by decide]
            have := ra.2
            omega
          have ht1 : Txt.join (Str.ofString " ") (rtW r.nm (ltS A) (ltS B) (ltS C) (ltS W) r.wt r.br ls) = htS ⟨r, A, B, C, W, ls⟩ := (ht_rt gt).symm
          rw [ht1]
          walk_at "gr"
          refine rm_append c6 (by rw [List.length_map, List.length_map]; omega) ?_
          refine ⟨ts ++ [⟨r, A, B, C, W, ls⟩], _, _, _, _, _, _, _, _, _, _, _, _, rfl, by rw [List.map_append, ht, tk] <;> rfl, fun x hx => ?_, ?_, (h6.wr npl).mono (by push_cast; omega), fun q n1 n2 => (put_ne n2).trans (o6 q n1 n2)⟩
          · rcases List.mem_append.mp hx with hx | hx
            · exact hg x hx
            · rw [List.mem_singleton.mp hx]; exact gt
          · rw [put_same, List.map_append, List.map_append]
            rfl
      · rintro ρ2 S2 ⟨ts, x5, x6, x7, x8, x9, x10, x11, x12, x13, x14, x15, x16, rfl, ht, hg, c2, h2, o2⟩
        rw [List.length_map] at ht h2
        rw [List.take_length] at ht
        have lts : ts.length = ps.length := by rw [← List.length_map (f := Ht.p), ht]
        refine vx_freeze 4 rfl c2 ?_
        have h3 : Pu (VS.del S2 ll) p (n + 400) := by
          obtain ⟨a, b, c, e, r⟩ := h2
          exact ⟨a, b, c, (VS.del_ne npl).trans e, r.1, r.2.1, r.2.2.1, by have := r.2.2.2; omega⟩
        have o3 : Off p S (VS.del S2 ll) := fun q n1 => by
          by_cases z : q = ll
          · rw [z, VS.del_same, hll]
          · rw [VS.del_ne z]; exact o2 q n1 z
        walk_at "gr"
        refine rm_join (ys := ts.map htS) (.l .v) ?_ (q ts _ ht hg h3 o3)
        have k3 := ts_sum g ts hg
        rw [List.length_map, show (Str.ofString "\n").length = 1 from by decide]
        omega) only [↓VS.box]
end
end LW
namespace LW
open PySem L2 C8 PySem.Spec PyProof.Rows VS
/-! ### a told heap is a heap of just these parcels -/
def p_is_heap74 (CH CP CS : Addr) : Pt := fun ds S G _ => ∃ (h l : Addr) (rs : List Pc), ds = [.ref h, .lst (rs.map rwD)] ∧ HpS S CH CP CS h l rs ∧ Hrs rs ∧ ∀ S', Ext S S' → G (.bl true) S'
def nmD : D → D
  | .lst (z :: _) => z
  | _ => .non
theorem rw_ok {r : Pc} (g : r.g) : Ok (rwD r) 180015 5 := by
  refine (Ok.lst 6 (n := 30000) (k := 4) (fun y hy => ?_) (Nat.le_refl _) (by decide)).mono (by decide) (by decide)
  have wl := g.wl
  have wt := g.wt
  have br := g.br
  have i3 : ∀ {i : Int}, In1 i → Ok (.int i) 200 2 := fun hi => ok_int (by have := hi.1; have := hi.2; omega)
  simp only [List.mem_cons, List.not_mem_nil, or_false] at hy
  rcases hy with rfl | rfl | rfl | rfl | rfl | rfl
  · exact (ok_str g.asc (by decide)).mono (by decide) (by decide)
  · exact (Ok.lst 3 (n := 200) (k := 2) (fun z hz => by
      simp only [List.mem_cons, List.not_mem_nil, or_false] at hz
      rcases hz with rfl | rfl | rfl
      · exact i3 g.a
      · exact i3 g.b
      · exact i3 g.c) (Nat.le_refl _) (by decide)).mono (by decide) (by decide)
  · exact (ok_int (by omega)).mono (by decide) (by decide)
  · exact (ok_int (by omega)).mono (by decide) (by decide)
  · exact (ok_int (by omega)).mono (by decide) (by decide)
  · exact ok_strs (fun z hz => (mk_wd g.lb z hz).2.1.mono (by decide)) (by have := g.lb.l; omega)
section
variable {P : Program} {w : World} {K : PySem.W.Frag} {mg : Str → Option Value} {base : Heap}
theorem ok__law_is_heap {f : Addr} {fd : FuncData} {C_Measure C_Sides C_Parcel C_Heap C_NoNumber C_NoSize C_NoMeasure C_NoSide C_NoOrder C_NoSides : Addr} {f_Heap_names f_Heap___len__ f_Heap_parcels f_Parcel_name f_Parcel_sides f_Sides_told f_Parcel_wall f_Parcel_weight f_Parcel_bears f_Parcel_labels f__law_parcel f_Parcel___eq__ f__law_heap f_Heap___eq__ : Addr} {g_Heap_names g_Heap___len__ g_Heap_parcels g_Parcel_name g_Parcel_sides g_Sides_told g_Parcel_wall g_Parcel_weight g_Parcel_bears g_Parcel_labels g__law_parcel g_Parcel___eq__ g__law_heap g_Heap___eq__ : FuncData}
    (F : Fd K "_law_is_heap" "_law_is_heap" s__law_is_heap [] f fd) (T : Tx K mg) (hsys : SysOk base)
    (c_Heap_names : Mf P w K mg base 2 C_Heap "names" "Heap.names" s_Heap_names [] a_Heap_names (p_Hp_names C_Heap C_Parcel C_Sides) f_Heap_names g_Heap_names)
    (c_Heap___len__ : Mf P w K mg base 1 C_Heap "__len__" "Heap.__len__" s_Heap___len__ [] a_Heap___len__ (p_Hp_len C_Heap C_Parcel C_Sides) f_Heap___len__ g_Heap___len__)
    (c_Heap_parcels : Mf P w K mg base 1 C_Heap "parcels" "Heap.parcels" s_Heap_parcels [] a_Heap_parcels (p_Hp_parcels C_Heap C_Parcel C_Sides) f_Heap_parcels g_Heap_parcels)
    (c_Parcel_name : Mf P w K mg base 1 C_Parcel "name" "Parcel.name" s_Parcel_name [] a_Parcel_name (p_Pc_name C_Parcel C_Sides) f_Parcel_name g_Parcel_name)
    (c_Parcel_sides : Mf P w K mg base 1 C_Parcel "sides" "Parcel.sides" s_Parcel_sides [] a_Parcel_sides (p_Pc_sides C_Parcel C_Sides) f_Parcel_sides g_Parcel_sides)
    (c_Sides_told : Mf P w K mg base 1 C_Sides "told" "Sides.told" s_Sides_told [] a_Sides_told (p_told C_Sides) f_Sides_told g_Sides_told)
    (c_Parcel_wall : Mf P w K mg base 1 C_Parcel "wall" "Parcel.wall" s_Parcel_wall [] a_Parcel_wall (p_Pc_wall C_Parcel C_Sides) f_Parcel_wall g_Parcel_wall)
    (c_Parcel_weight : Mf P w K mg base 1 C_Parcel "weight" "Parcel.weight" s_Parcel_weight [] a_Parcel_weight (p_Pc_weight C_Parcel C_Sides) f_Parcel_weight g_Parcel_weight)
    (c_Parcel_bears : Mf P w K mg base 1 C_Parcel "bears" "Parcel.bears" s_Parcel_bears [] a_Parcel_bears (p_Pc_bears C_Parcel C_Sides) f_Parcel_bears g_Parcel_bears)
    (c_Parcel_labels : Mf P w K mg base 1 C_Parcel "labels" "Parcel.labels" s_Parcel_labels [] a_Parcel_labels (p_Pc_labelsB C_Parcel C_Sides) f_Parcel_labels g_Parcel_labels)
    (c__law_parcel : Cf P w K mg base (L2.CX P w) 5 "_law_parcel" s__law_parcel [] a__law_parcel (p_parcel74 C_Parcel C_Sides) f__law_parcel g__law_parcel)
    (c_Parcel___eq__ : Mf P w K mg base 8 C_Parcel "__eq__" "Parcel.__eq__" s_Parcel___eq__ [] a_Parcel___eq__ (p_Pc_eq K C_Parcel C_Sides) f_Parcel___eq__ g_Parcel___eq__)
    (c__law_heap : Cf P w K mg base (L2.CX P w) 6 "_law_heap" s__law_heap [] a__law_heap (p_heap74 C_Heap C_Parcel C_Sides) f__law_heap g__law_heap)
    (c_Heap___eq__ : Mf P w K mg base 11 C_Heap "__eq__" "Heap.__eq__" s_Heap___eq__ [] a_Heap___eq__ (p_Hp_eq74 C_Heap C_Parcel C_Sides) f_Heap___eq__ g_Heap___eq__)
    (k_Heap : Kl_Heap K mg C_Heap)
    (k_Parcel : Kl_Parcel K mg C_Parcel)
    (k_Sides : Kl_Sides K mg C_Sides) :
    FnG P w K mg base (L2.CX P w) 13 f fd a__law_is_heap (spOf K (p_is_heap74 C_Heap C_Parcel C_Sides)) := by
  refine VS.unbox ?_
  simp (disch := with_unfolding_all
    have kc_Heap := k_Heap.ins.cl
    have ka_Heap_held := k_Heap.a_held
    have kc_Parcel := k_Parcel.ins.cl
    have ka_Parcel_called := k_Parcel.a_called
    have ka_Parcel_outside := k_Parcel.a_outside
    have ka_Parcel_thick := k_Parcel.a_thick
    have ka_Parcel_heavy := k_Parcel.a_heavy
    have ka_Parcel_strong := k_Parcel.a_strong
    have ka_Parcel_marks := k_Parcel.a_marks
    have kc_Sides := k_Sides.ins.cl
    have ka_Sides_three := k_Sides.a_three
    refine fn_val F sc__law_is_heap (fun ds S G Y h => ?_) (fun cdv A hgd outer s H E hr px tk po ds S G Y h => ?_)
    · obtain ⟨hh, l, rs, rfl, _⟩ := h
      rfl
    · obtain ⟨hh, l, rs, rfl, hs, hrs, q⟩ := h
      refine ⟨_, (pss_cons (ps_if (PW.pt (pw_or (pt_not (pt_val (pe_callB c_isiZ (by rfl) T.b_isinstance (by decide +kernel) (pa_cons (pv 0) (pa_cons (pe_gc (v := .ref C_Heap) (by rfl) ⟨_, k_Heap.at_, rfl⟩) pa_nil))))) (pw_or (pt_cmpR (op_neP hr hsys) (pe_mG0 (pv 0) c_Heap_names.cl c_Heap_names.me c_Heap_names.fn hgd (hr.mono (by decide)) c_Heap_names.b .nil VS.pass0) (pe_lc (own := [("_law_row_here", 3)]) rfl sc__law_is_heap.nd (pi_list (pv 1)) (blkOk_by (own := [("_law_row_here", 3)]) (N := n__law_is_heap) (sc := defScope s__law_is_heap) (by decide +kernel)) (fun _ _ _ _ _ => (pg_name (i := 3) sc__law_is_heap.nd rfl (Or.inl rfl))) (fun _ _ _ _ _ => pts_nil) (fun _ _ _ _ _ => (pe_ix (kI (K := K) (r := rIxL) ix_list) (pv 3) pe_int (fun _ _ => rfl)))) (nomark _)) (pw_or1 (pt_cmpR op_ne (pe_callB (c_lenO c_Heap___len__.fn hgd (hr.mono (by decide)) c_Heap___len__.me.at_ c_Heap___len__.me.fn c_Heap___len__.b) (by rfl) T.b_len (by decide +kernel) (pa_cons (pv 0) pa_nil)) (pe_callB c_len (by rfl) T.b_len (by decide +kernel) (pa_cons (pv 1) pa_nil)) (nomark _)))))) (pss_one (ps_ret pe_bl))
        pss_nil)
        (pss_cons (ps_for po rfl (pi_zip (by rfl) T.b_zip (pa_cons (pe_mG0 (pv 0) c_Heap_parcels.cl c_Heap_parcels.me c_Heap_parcels.fn hgd (hr.mono (by decide)) c_Heap_parcels.b .nil VS.pass0) (pa_cons (pv 1) pa_nil))) (pg_tup (n := 2) rfl (pgs_cons (pg_name (i := 2) sc__law_is_heap.nd rfl (Or.inl rfl)) (pgs_cons (pg_name (i := 3) sc__law_is_heap.nd rfl (Or.inl rfl)) pgs_nil)))
        (pss_cons (ps_set (i := 4) sc__law_is_heap.nd rfl (Or.inl rfl) (pe_lst (pa_cons (pe_mG0 (pv 2) c_Parcel_name.cl c_Parcel_name.me c_Parcel_name.fn hgd (hr.mono (by decide)) c_Parcel_name.b .nil VS.pass0) (pa_cons (pe_callTy c_list (by rfl) T.b_list (by decide +kernel) (pa_cons (pe_mG0 (pe_mG0 (pv 2) c_Parcel_sides.cl c_Parcel_sides.me c_Parcel_sides.fn hgd (hr.mono (by decide)) c_Parcel_sides.b .nil VS.pass0) c_Sides_told.cl c_Sides_told.me c_Sides_told.fn hgd (hr.mono (by decide)) c_Sides_told.b .nil VS.pass0) pa_nil)) (pa_cons (pe_mG0 (pv 2) c_Parcel_wall.cl c_Parcel_wall.me c_Parcel_wall.fn hgd (hr.mono (by decide)) c_Parcel_wall.b .nil VS.pass0) (pa_cons (pe_mG0 (pv 2) c_Parcel_weight.cl c_Parcel_weight.me c_Parcel_weight.fn hgd (hr.mono (by decide)) c_Parcel_weight.b .nil VS.pass0) (pa_cons (pe_mG0 (pv 2) c_Parcel_bears.cl c_Parcel_bears.me c_Parcel_bears.fn hgd (hr.mono (by decide)) c_Parcel_bears.b .nil VS.pass0) pa_nil)))))))
        (pss_one (ps_if (PW.pt (pw_or (pt_cmpR op_ne (pe_callB (c_repr hgd hr hsys) (by rfl) T.b_repr (by decide +kernel) (pa_cons (pe_op op_cat (pv 4) (pe_lst (pa_cons (pe_mG0 (pv 2) c_Parcel_labels.cl c_Parcel_labels.me c_Parcel_labels.fn hgd (hr.mono (by decide)) c_Parcel_labels.b .nil VS.pass0) pa_nil))) pa_nil)) (pe_callB (c_repr hgd hr hsys) (by rfl) T.b_repr (by decide +kernel) (pa_cons (pv 3) pa_nil)) (nomark _)) (pw_or1 (pt_cmpR (op_neO c_Parcel___eq__.fn hgd (hr.mono (by decide)) k_Parcel.l_obj k_Parcel.l_ne c_Parcel___eq__.me.at_ c_Parcel___eq__.me.fn c_Parcel___eq__.b) (pv 2) (pe_cG c__law_parcel.fn hgd (hr.mono (by decide)) (by rfl) c__law_parcel.mg c__law_parcel.kp c__law_parcel.b .nil VS.pass0 (pa_cons (pv 3) pa_nil)) (nomark _))))) (pss_one (ps_ret pe_bl))
        pss_nil))))
        (pss_one (ps_ret (pe_cmpR (op_eqO c_Heap___eq__.fn hgd (hr.mono (by decide)) c_Heap___eq__.me.at_ c_Heap___eq__.me.fn c_Heap___eq__.b) (pv 0) (pe_cG c__law_heap.fn hgd (hr.mono (by decide)) (by rfl) c__law_heap.mg c__law_heap.kp c__law_heap.b .nil VS.pass0 (pa_cons (pv 1) pa_nil)) (nomark _)))))), ?_⟩
      (try dsimp only [cxOf, List.map])
      show VX _ _ [_, _, _, _, _] _ _
      have sz := szl
      have hl := hrs.l
      have c1 := hs.1
      have hps := hrs.hps
      have an : ∀ z ∈ rs.map Pc.nm, Asc 19 z := fun z hz => by
        obtain ⟨p, hp, rfl⟩ := List.mem_map.mp hz
        exact (hps.g p hp).asc.mono (by decide)
      walk_at "gr"
      refine rc_isiO (.i (.c hs.1) k_Heap.ins) k_Heap.ins.me ?_
      walk_at "gr"
      refine ⟨hh, l, rs, rfl, hs, hl, ?_⟩
      walk_at "gr"
      refine ve_lcM nmD (vi_list ?_)
      walk_at "gr"
      refine ⟨_, .v, by rw [List.length_map]; omega, fun d hd => ?_, ?_⟩
      · obtain ⟨r, hr, rfl⟩ := List.mem_map.mp hd
        rw [show rwD r = D.lst [.str r.nm, .lst [.int r.a, .int r.b, .int r.c], .int r.wl, .int r.wt, .int r.br, .lst (r.mk.map D.str)] from rfl]
        walk_at "gr"
        refine ⟨rfl, ?_⟩
        walk_at "gr"
        exact ⟨rfl, rfl⟩
      rw [show (rs.map rwD).map nmD = (rs.map Pc.nm).map D.str by rw [List.map_map, List.map_map]; rfl]
      walk_at "gr"
      refine rv_neStrs .v .v an an (by rw [List.length_map]; omega) (by rw [List.length_map]; omega) ?_
      rw [decide_eq_true rfl]
      walk_at "gr"
      refine rc_lenO (.c hs.1) ⟨hh, l, rs, rfl, hs, hl, _, rfl, by omega, by omega, ?_⟩
      walk_at "gr"
      rw [List.length_map, decide_eq_true rfl]
      walk_at "gr"
      refine vx_for (vi_zip ?_)
      walk_at "gr"
      refine ⟨_, rs, rfl, hs.is, ?_⟩
      walk_at "gr"
      refine ⟨_, _, _, _, rfl, .v, .v, fun i ρ2 S2 => S2 = S ∧ ∃ x2 x3 x4, ρ2 = [some (.ref hh), some (.lst (rs.map rwD)), x2, x3, x4], ⟨rfl, _, _, _, rfl⟩, ?_, ?_⟩
      · rintro i d ρ2 S2 hd ⟨rfl, x2, x3, x4, rfl⟩
        obtain ⟨a, b, ha, hb, rfl⟩ := zipD_get hd
        rw [List.getElem?_map] at ha hb
        obtain ⟨r, hr, rfl⟩ := Option.map_eq_some_iff.mp ha
        rw [hr] at hb
        cases hb
        have gr := (hrs.g r (List.mem_of_getElem? hr)).1
        clear hd ha
        unfold Pc.d
        walk_at "gr"
        refine ve_lst ?_
        walk_at "gr"
        refine ⟨_, _, _, _, _, _, _, _, rfl, ?_⟩
        walk_at "gr"
        refine ⟨_, _, _, _, _, _, _, _, rfl, ?_⟩
        walk_at "gr"
        refine rc_list .t ?_
        walk_at "gr"
        refine ⟨_, _, _, _, _, _, _, _, rfl, ?_⟩
        walk_at "gr"
        refine ⟨_, _, _, _, _, _, _, _, rfl, ?_⟩
        walk_at "gr"
        refine ⟨_, _, _, _, _, _, _, _, rfl, ?_⟩
        walk_at "gr"
        refine ve_lst ?_
        walk_at "gr"
        refine ⟨_, _, _, _, _, _, _, _, rfl, .inr ?_⟩
        walk_at "gr"
        refine rv_cat .v .v (by show 5 + 1 ≤ sizeLine; omega) ?_
        have o := rw_ok gr
        rw [show [D.str r.nm, .lst [.int r.a, .int r.b, .int r.c], .int r.wl, .int r.wt, .int r.br] ++ [D.lst (r.mk.map D.str)] = [.str r.nm, .lst [.int r.a, .int r.b, .int r.c], .int r.wl, .int r.wt, .int r.br, .lst (r.mk.map D.str)] from rfl]
        walk_at "gr"
        refine rc_reprS .v o.sh (by decide) (by decide) ?_
        walk_at "gr"
        refine rc_reprS .v o.sh (by decide) (by decide) ?_
        refine rv_neSame ?_
        walk_at "gr"
        refine ⟨r, rfl, hrs.g r (List.mem_of_getElem? hr), ?_⟩
        refine rv_neO .v (.i .v k_Parcel.ins) (by simp [PySem.W.notFirst]) ⟨_, _, _, _, _, _, _, _, _, rfl, gr, .inr ⟨_, _, _, _, _, _, _, _, rfl, gr, _, rfl, ?_⟩⟩
        rw [pceq_self]
        walk_at "gr"
        exact ⟨rfl, _, _, _, rfl⟩
      · rintro ρ2 S2 ⟨rfl, x2, x3, x4, rfl⟩
        walk_at "gr"
        refine ⟨rs, rfl, hrs, fun h' l' S' nh nl x hs' => ?_⟩
        have hs2 := hs.ext x
        exact rv_eqO (.c hs2.1) (.i (.c hs'.1) k_Heap.ins) (by simp [PySem.W.notFirst]) ⟨hh, l, h', l', rs, rfl, hs2, hs', hps.g, hl, true, rfl, q S' x⟩) only [↓VS.box]
end
end LW
namespace LW
open PySem L2 C8 PySem.Spec PyProof.Rows VS
/-! ### units of another measure -/
def p_other74 : Pt := fun ds S G _ => ∃ (p : Addr) (n : Int) (us : List (Str × Int)), ds = [.ref p, .lst (us.map uD)] ∧ Pu S p n ∧ n < 600000 ∧ Ug us ∧ (∀ u ∈ us, u.1.length ≤ 7) ∧ ∀ us' S', Ug us' → Pu S' p (n + 50) → Off p S S' → G (.lst (us'.map uD)) S'
/-- the names of the one, the points of the other -/
def zpU (ws : List Str) (vs : List (Str × Int)) : List (Str × Int) := List.zipWith (fun w v => (w, v.2)) ws vs
theorem zp_falls : ∀ {ws : List Str} {vs : List (Str × Int)}, falls vs = true → falls (zpU ws vs) = true
  | [], _, _ => rfl
  | _ :: _, [], _ => rfl
  | [_], _ :: _, _ => rfl
  | _ :: _ :: _, [_], _ => rfl
  | a :: b :: ws, v :: w :: vs, h => by
    have h : (decide (w.2 < v.2) && falls (w :: vs)) = true := h
    rw [Bool.and_eq_true] at h
    have ih := zp_falls (ws := b :: ws) h.2
    show (decide (w.2 < v.2) && falls (zpU (b :: ws) (w :: vs))) = true
    rw [h.1, ih]
    rfl
theorem zp_fst : ∀ (ws : List Str) (vs : List (Str × Int)), (zpU ws vs).map (·.1) = ws.take vs.length
  | [], _ => by simp [zpU]
  | _ :: _, [] => rfl
  | a :: ws, v :: vs => by
    show a :: (zpU ws vs).map (·.1) = a :: ws.take vs.length
    rw [zp_fst ws vs]
theorem zp_len (ws : List Str) (vs : List (Str × Int)) : (zpU ws vs).length = min ws.length vs.length := List.length_zipWith
theorem zp_mem : ∀ {ws : List Str} {vs : List (Str × Int)} {u : Str × Int}, u ∈ zpU ws vs → u.1 ∈ ws ∧ ∃ v ∈ vs, v.2 = u.2
  | a :: ws, v :: vs, u, h => by
    rcases List.mem_cons.mp (show u ∈ (a, v.2) :: zpU ws vs from h) with rfl | h
    · exact ⟨List.mem_cons_self, v, List.mem_cons_self, rfl⟩
    · obtain ⟨h1, w, h2, h3⟩ := zp_mem h
      exact ⟨List.mem_cons_of_mem _ h1, w, List.mem_cons_of_mem _ h2, h3⟩
theorem zp_ug {us vs : List (Str × Int)} (g : Ug us) (k : Ug vs) : Ug (zpU (us.map (·.1)).reverse vs) where
  l := by
    have := g.l
    have := k.l
    rw [zp_len, List.length_reverse, List.length_map]
    omega
  u := fun u hu => by
    obtain ⟨h1, v, hv, e⟩ := zp_mem hu
    obtain ⟨w, hw, e2⟩ := List.mem_map.mp (List.mem_reverse.mp h1)
    have a := g.u w hw
    have b := k.u v hv
    exact ⟨e2 ▸ a.n, e2 ▸ a.l, e2 ▸ a.k, e ▸ b.p⟩
  d := by
    rw [zp_fst]
    have h : (us.map (·.1)).reverse.Nodup := by rw [List.nodup_iff_pairwise_ne, List.pairwise_reverse]; exact (List.nodup_iff_pairwise_ne.mp g.d).imp fun h => Ne.symm h
    exact h.sublist (List.take_sublist _ _)
  f := zp_falls k.f
/-- a letter more -/
def upU (us : List (Str × Int)) : List (Str × Int) := us.map fun u => (u.1 ++ "u", u.2)
theorem u_tl (z : Str) : (z ++ ("u" : Str)).cps.toList = z.cps.toList ++ [117] := by rw [tlA]; rfl
theorem u_len (z : Str) : (z ++ ("u" : Str)).length = z.length + 1 := by rw [len_add]; rfl
theorem u_kept (z : Str) : z ++ ("u" : Str) ∉ kepts := fun h => by
  have key : ∀ k ∈ kepts, k.cps.toList.getLast? ≠ some 117 := by decide +kernel
  exact key _ h (by rw [u_tl]; exact List.getLast?_concat ..)
theorem u_inj {a b : Str} (h : a ++ ("u" : Str) = b ++ "u") : a = b := by
  have h := congrArg (fun z : Str => z.cps.toList) h
  simp only [u_tl] at h
  exact PySem.Str.ext' (Array.toList_inj.mp (List.append_cancel_right h))
theorem up_ug {us : List (Str × Int)} (g : Ug us) (h7 : ∀ u ∈ us, u.1.length ≤ 7) : Ug (upU us) where
  l := by unfold upU; rw [List.length_map]; exact g.l
  u := fun u hu => by
    obtain ⟨v, hv, rfl⟩ := List.mem_map.mp hu
    have a := g.u v hv
    have l7 := h7 v hv
    have n := a.n
    refine ⟨?_, by rw [u_len]; omega, u_kept _, a.p⟩
    unfold nmB at n ⊢
    rw [Bool.and_eq_true, Bool.and_eq_true, decide_eq_true_eq, decide_eq_true_eq] at n ⊢
    refine ⟨⟨by rw [u_len]; omega, by rw [u_len]; omega⟩, ?_⟩
    have n2 : v.1.cps.toList.all lcN = true := n.2
    show ((v.1 ++ ("u" : Str)).cps.toList.all lcN) = true
    rw [u_tl, List.all_append, n2]
    decide +kernel
  d := by
    have e : (upU us).map (·.1) = (us.map (·.1)).map (· ++ ("u" : Str)) := by unfold upU; rw [List.map_map, List.map_map]; rfl
    rw [e, List.nodup_iff_pairwise_ne, List.pairwise_map]
    exact (List.nodup_iff_pairwise_ne.mp g.d).imp fun h k => h (u_inj k)
  f := by
    have : ∀ us : List (Str × Int), falls us = true → falls (upU us) = true := by
      intro us
      induction us with
      | nil => intro _; rfl
      | cons a us ih =>
        cases us with
        | nil => intro _; rfl
        | cons b us =>
          intro h
          have h : (decide (b.2 < a.2) && falls (b :: us)) = true := h
          rw [Bool.and_eq_true] at h
          show (decide (b.2 < a.2) && falls (upU (b :: us))) = true
          rw [h.1, ih h.2]
          rfl
    exact this us g.f
def wdD : D → D
  | .tup [z, _] => z
  | _ => .non
def znD : D → D
  | .tup [z, .tup [_, i]] => .tup [z, i]
  | _ => .non
def upD' : D → D
  | .tup [.str z, i] => .tup [.str (z ++ "u"), i]
  | _ => .non
theorem zp_map : ∀ (ws : List Str) (vs : List (Str × Int)), (zipD (ws.map D.str) (vs.map uD)).map znD = (zpU ws vs).map uD
  | [], _ => rfl
  | _ :: _, [] => rfl
  | a :: ws, v :: vs => by
    show D.tup [.str a, .int v.2] :: (zipD (ws.map D.str) (vs.map uD)).map znD = D.tup [.str a, .int v.2] :: (zpU ws vs).map uD
    rw [zp_map ws vs]
theorem zip_at : ∀ {xs ys : List D} {d : D}, d ∈ zipD xs ys → ∃ x ∈ xs, ∃ y ∈ ys, d = .tup [x, y]
  | x :: xs, y :: ys, d, h => by
    rcases List.mem_cons.mp (show d ∈ D.tup [x, y] :: zipD xs ys from h) with rfl | h
    · exact ⟨x, List.mem_cons_self, y, List.mem_cons_self, rfl⟩
    · obtain ⟨a, h1, b, h2, e⟩ := zip_at h
      exact ⟨a, List.mem_cons_of_mem _ h1, b, List.mem_cons_of_mem _ h2, e⟩
section
variable {P : Program} {w : World} {K : PySem.W.Frag} {mg : Str → Option Value} {base : Heap}
theorem ok__law_other_units {f : Addr} {fd : FuncData} {C_Measure C_Sides C_Parcel C_Heap C_NoNumber C_NoSize C_NoMeasure C_NoSide C_NoOrder C_NoSides : Addr} {f__law_units f__law_take : Addr} {g__law_units g__law_take : FuncData}
    (F : Fd K "_law_other_units" "_law_other_units" s__law_other_units [] f fd) (T : Tx K mg) (hsys : SysOk base)
    (c__law_units : Cf P w K mg base (L2.CX P w) 2 "_law_units" s__law_units [] a__law_units p__law_units74 f__law_units g__law_units)
    (c__law_take : Cf P w K mg base (L2.CX P w) 1 "_law_take" s__law_take [] a__law_take p__law_take f__law_take g__law_take) :
    FnG P w K mg base (L2.CX P w) 3 f fd a__law_other_units (spOf K p_other74) := by
  refine VS.unbox ?_
  simp (disch := with_unfolding_all
    refine fn_val F sc__law_other_units (fun ds S G Y h => ?_) (fun cdv A hgd outer s H E hr px tk po ds S G Y h => ?_)
    · obtain ⟨p, n, us, rfl, _⟩ := h
      rfl
    · obtain ⟨p, n, us, rfl, hp, hn, g, g7, q⟩ := h
      refine ⟨_, (pss_cons (ps_set (i := 2) sc__law_other_units.nd rfl (Or.inl rfl) (pe_cG c__law_units.fn hgd (hr.mono (by decide)) (by rfl) c__law_units.mg c__law_units.kp c__law_units.b .nil VS.pass0 (pa_cons (pv 0) pa_nil)))
        (pss_cons (ps_set (i := 3) sc__law_other_units.nd rfl (Or.inl rfl) (pe_cG c__law_take.fn hgd (hr.mono (by decide)) (by rfl) c__law_take.mg c__law_take.kp c__law_take.b .nil VS.pass0 (pa_cons (pv 0) (pa_cons pe_int pa_nil))))
        (pss_cons (ps_if (pt_cmpR op_eq (pv 3) pe_int (nomark _)) (pss_one (ps_ret (pe_callTy c_list (by rfl) T.b_list (by decide +kernel) (pa_cons (pv 1) pa_nil))))
        pss_nil)
        (pss_cons (ps_if (pt_cmpR op_eq (pv 3) pe_int (nomark _)) (pss_cons (ps_setLc (i := 4) (own := [("_law_word", 5), ("_law_each", 6)]) rfl sc__law_other_units.nd rfl rfl (sw_true rfl rfl rfl (by decide +kernel)) (pi_list (pv 1)) (blkOk_by (own := [("_law_word", 5), ("_law_each", 6)]) (N := n__law_other_units) (sc := defScope s__law_other_units) (by decide +kernel)) (fun _ _ _ _ _ => (kTup (K := K) (pg_tup (n := 2) rfl (pgs_cons (pg_name (i := 5) sc__law_other_units.nd rfl (Or.inl rfl)) (pgs_cons (pg_name (i := 6) sc__law_other_units.nd rfl (Or.inl rfl)) pgs_nil))))) (fun _ _ _ _ _ => pts_nil) (fun _ _ _ _ _ => (pv 5)))
        (pss_one (ps_ret (pe_lc (own := [("_law_word", 5), ("_law_same", 7), ("_law_each", 6)]) rfl sc__law_other_units.nd (pi_zip (by rfl) T.b_zip (pa_cons (pe_revL (pv 4)) (pa_cons (pv 2) pa_nil))) (blkOk_by (own := [("_law_word", 5), ("_law_same", 7), ("_law_each", 6)]) (N := n__law_other_units) (sc := defScope s__law_other_units) (by decide +kernel)) (fun _ _ _ _ _ => (kTup (K := K) (pg_tup (n := 2) rfl (pgs_cons (pg_name (i := 5) sc__law_other_units.nd rfl (Or.inl rfl)) (pgs_cons (kTup (K := K) (pg_tup (n := 2) rfl (pgs_cons (pg_name (i := 7) sc__law_other_units.nd rfl (Or.inl rfl)) (pgs_cons (pg_name (i := 6) sc__law_other_units.nd rfl (Or.inl rfl)) pgs_nil)))) pgs_nil))))) (fun _ _ _ _ _ => pts_nil) (fun _ _ _ _ _ => (pe_tup (pa_cons (pv 5) (pa_cons (pv 6) pa_nil))))))))
        pss_nil)
        (pss_cons (ps_if (pt_cmpR op_eq (pv 3) pe_int (nomark _)) (pss_one (ps_ret (pe_lc (own := [("_law_word", 5), ("_law_each", 6)]) rfl sc__law_other_units.nd (pi_list (pv 1)) (blkOk_by (own := [("_law_word", 5), ("_law_each", 6)]) (N := n__law_other_units) (sc := defScope s__law_other_units) (by decide +kernel)) (fun _ _ _ _ _ => (kTup (K := K) (pg_tup (n := 2) rfl (pgs_cons (pg_name (i := 5) sc__law_other_units.nd rfl (Or.inl rfl)) (pgs_cons (pg_name (i := 6) sc__law_other_units.nd rfl (Or.inl rfl)) pgs_nil))))) (fun _ _ _ _ _ => pts_nil) (fun _ _ _ _ _ => (pe_tup (pa_cons (pe_ifExp (pt_cmpR op_lt (pe_callB (kC (K := K) (r := VS.rLen) c_len) (by rfl) T.b_len (by decide +kernel) (pa_cons (pv 5) pa_nil)) pe_int (nomark _)) (pe_op op_addS (pv 5) pe_str) pe_str) (pa_cons (pv 6) pa_nil)))))))
        pss_nil)
        (pss_one (ps_ret (pv 2)))))))), ?_⟩
      (try dsimp only [cxOf, List.map])
      show VX _ _ [_, _, _, _, _, _, _, _] _ _
      have sz := szl
      have gl := g.l
      walk_at "gr"
      refine ⟨p, n, rfl, hp, by omega, fun vs S1 k _ h1 o1 => ?_⟩
      have kl := k.l
      walk_at "gr"
      intro t S2 t0 t1 h2 o2
      have h2 : Pu S2 p (n + 50) := h2.mono (by omega)
      have o2 := o1.trans o2
      clear h1 o1 hp
      walk_at "gr"
      refine VS.br (fun e => ?_) (fun e => ?_)
      · walk_at "gr"
        exact rc_list (.l .v) (q us _ g h2 o2)
      walk_at "gr"
      refine VS.br (fun e => ?_) (fun e => ?_)
      · walk_at "gr"
        refine ve_lcM wdD (vi_list ?_)
        walk_at "gr"
        refine ⟨_, .v, by rw [List.length_map]; omega, fun d hd => ?_, ?_⟩
        · obtain ⟨u, hu, rfl⟩ := List.mem_map.mp hd
          rw [show uD u = D.tup [.str u.1, .int u.2] from rfl]
          walk_at "gr"
          refine ⟨rfl, ?_⟩
          walk_at "gr"
          exact ⟨rfl, rfl⟩
        rw [show (us.map uD).map wdD = (us.map (·.1)).map D.str by rw [List.map_map, List.map_map]; rfl]
        walk_at "gr"
        refine ve_lcM znD (vi_zip ?_)
        walk_at "gr"
        refine ve_revL ?_
        walk_at "gr"
        refine ⟨_, .v, ?_⟩
        rw [← List.map_reverse]
        walk_at "gr"
        refine ⟨_, _, ((us.map (·.1)).reverse.map D.str), vs.map uD, rfl, .v, .v, by rw [zipD_len, List.length_map, List.length_map, List.length_reverse, List.length_map]; omega, fun d hd => ?_, ?_⟩
        · obtain ⟨x, hx, y, hy, rfl⟩ := zip_at hd
          obtain ⟨z, _, rfl⟩ := List.mem_map.mp hx
          obtain ⟨v, _, rfl⟩ := List.mem_map.mp hy
          rw [show uD v = D.tup [.str v.1, .int v.2] from rfl]
          walk_at "gr"
          refine ⟨rfl, ?_⟩
          walk_at "gr"
          exact ⟨rfl, rfl⟩
        rw [zp_map]
        walk_at "gr"
        exact q _ _ (zp_ug g k) h2 o2
      walk_at "gr"
      refine VS.br (fun e => ?_) (fun e => ?_)
      · walk_at "gr"
        refine ve_lcM upD' (vi_list ?_)
        walk_at "gr"
        refine ⟨_, .v, by rw [List.length_map]; omega, fun d hd => ?_, ?_⟩
        · obtain ⟨u, hu, rfl⟩ := List.mem_map.mp hd
          have l7 := g7 u hu
          rw [show uD u = D.tup [.str u.1, .int u.2] from rfl]
          walk_at "gr"
          refine ⟨rfl, ?_⟩
          walk_at "gr"
          refine ⟨fun _ => ?_, fun e => absurd (of_decide_eq_false e) (by omega)⟩
          walk_at "gr"
          refine rv_addS (by show u.1.length + 1 ≤ sizeLine; omega) ?_
          walk_at "gr"
          exact ⟨rfl, rfl⟩
        rw [show (us.map uD).map upD' = (upU us).map uD by unfold upU; rw [List.map_map, List.map_map]; rfl]
        walk_at "gr"
        exact q _ _ (up_ug g g7) h2 o2
      · walk_at "gr"
        exact q vs _ k h2 o2) only [↓VS.box]
end
end LW
namespace LW
open PySem L2 C8 PySem.Spec PyProof.Rows VS
/-! ### the law: heaps told again -/
def p_law : Pt := fun ds S G _ => ∃ ns : List Int, ds = [.rol (ns.map .int)] ∧ ns.length ≤ 63 ∧ ∀ S', G (.bl true) S'
theorem Hrs.mks {rs : List Pc} (h : Hrs rs) : ∀ p ∈ rs, mksOf p.mk = p.mk := fun p hp => (h.g p hp).2
section
variable {P : Program} {w : World} {K : PySem.W.Frag} {mg : Str → Option Value} {base : Heap}
theorem ok_law {f : Addr} {fd : FuncData} {C_Measure C_Sides C_Parcel C_Heap C_NoNumber C_NoSize C_NoMeasure C_NoSide C_NoOrder C_NoSides : Addr} {f__law_cell f__law_purse f__law_take f__law_units f__law_other_units f__law_row f__law_names f__law_loose_text f_Measure f_heap_retold f__law_written f_read_heap f__law_is_heap f_show_heap : Addr} {g__law_cell g__law_purse g__law_take g__law_units g__law_other_units g__law_row g__law_names g__law_loose_text g_Measure g_heap_retold g__law_written g_read_heap g__law_is_heap g_show_heap : FuncData}
    (F : Fd K "law" "law" s_law [] f fd) (T : Tx K mg) (hsys : SysOk base)
    (c__law_cell : Cf P w K mg base (L2.CX P w) 1 "_law_cell" s__law_cell [] a__law_cell p__law_cell f__law_cell g__law_cell)
    (c__law_purse : Cf P w K mg base (L2.CX P w) 1 "_law_purse" s__law_purse [] a__law_purse p__law_purse f__law_purse g__law_purse)
    (c__law_take : Cf P w K mg base (L2.CX P w) 1 "_law_take" s__law_take [] a__law_take p__law_take f__law_take g__law_take)
    (c__law_units : Cf P w K mg base (L2.CX P w) 2 "_law_units" s__law_units [] a__law_units p__law_units74 f__law_units g__law_units)
    (c__law_other_units : Cf P w K mg base (L2.CX P w) 3 "_law_other_units" s__law_other_units [] a__law_other_units p_other74 f__law_other_units g__law_other_units)
    (c__law_row : Cf P w K mg base (L2.CX P w) 3 "_law_row" s__law_row [] a__law_row p_row74 f__law_row g__law_row)
    (c__law_names : Cf P w K mg base (L2.CX P w) 2 "_law_names" s__law_names [] a__law_names p__law_names74 f__law_names g__law_names)
    (c__law_loose_text : Cf P w K mg base (L2.CX P w) 3 "_law_loose_text" s__law_loose_text [] a__law_loose_text p_loose_text74 f__law_loose_text g__law_loose_text)
    (c_Measure : Kf P w K mg base 4 "Measure" C_Measure "Measure.__init__" s_Measure___init__ [] a_Measure___init__ (p_Ms_init C_Measure) f_Measure g_Measure)
    (c_heap_retold : Cf P w K mg base (L2.CX P w) 9 "heap_retold" s_heap_retold [] a_heap_retold (p_heap_retold C_Measure C_Heap C_Parcel C_Sides) f_heap_retold g_heap_retold)
    (c__law_written : Cf P w K mg base (L2.CX P w) 2 "_law_written" s__law_written [] a__law_written p_written74 f__law_written g__law_written)
    (c_read_heap : Cf P w K mg base (L2.CX P w) 8 "read_heap" s_read_heap [] a_read_heap (p_read_heap C_Measure C_Heap C_Parcel C_Sides) f_read_heap g_read_heap)
    (c__law_is_heap : Cf P w K mg base (L2.CX P w) 13 "_law_is_heap" s__law_is_heap [] a__law_is_heap (p_is_heap74 C_Heap C_Parcel C_Sides) f__law_is_heap g__law_is_heap)
    (c_show_heap : Cf P w K mg base (L2.CX P w) 8 "show_heap" s_show_heap [] a_show_heap (p_show_heap C_Measure C_Heap C_Parcel C_Sides) f_show_heap g_show_heap)
    (k_Measure : Kl_Measure K mg C_Measure)
    (k_Heap : Kl_Heap K mg C_Heap)
    (k_Parcel : Kl_Parcel K mg C_Parcel)
    (k_Sides : Kl_Sides K mg C_Sides) :
    FnG P w K mg base (L2.CX P w) 15 f fd a_law (spOf K p_law) := by
  refine VS.unbox ?_
  simp (disch := with_unfolding_all
    have kc_Measure := k_Measure.ins.cl
    have ka_Measure_called := k_Measure.a_called
    have ka_Measure_parts := k_Measure.a_parts
    have kc_Heap := k_Heap.ins.cl
    have ka_Heap_held := k_Heap.a_held
    have kc_Parcel := k_Parcel.ins.cl
    have ka_Parcel_called := k_Parcel.a_called
    have ka_Parcel_outside := k_Parcel.a_outside
    have ka_Parcel_thick := k_Parcel.a_thick
    have ka_Parcel_heavy := k_Parcel.a_heavy
    have ka_Parcel_strong := k_Parcel.a_strong
    have ka_Parcel_marks := k_Parcel.a_marks
    have kc_Sides := k_Sides.ins.cl
    have ka_Sides_three := k_Sides.a_three
    refine fn_val F sc_law (fun ds S G Y h => ?_) (fun cdv A hgd outer s H E hr px tk po ds S G Y h => ?_)
    · obtain ⟨ns, rfl, _⟩ := h
      rfl
    · obtain ⟨ns, rfl, hl, q⟩ := h
      refine ⟨_, (pss_cons (ps_for po rfl (pi_range1 (by rfl) T.b_range (pa_cons (pe_callB (c_max2 rfl) (by rfl) T.b_max (by decide +kernel) (pa_cons pe_int (pa_cons (pe_callB (c_min2 rfl) (by rfl) T.b_min (by decide +kernel) (pa_cons pe_int (pa_cons (pe_callB c_len (by rfl) T.b_len (by decide +kernel) (pa_cons (pv 0) pa_nil)) pa_nil))) pa_nil))) pa_nil)) (pg_name (i := 1) sc_law.nd rfl (Or.inl rfl))
        (pss_cons (ps_set (i := 2) sc_law.nd rfl (Or.inr rfl) (pe_cG c__law_purse.fn hgd (hr.mono (by decide)) (by rfl) c__law_purse.mg c__law_purse.kp c__law_purse.b .nil VS.pass0 (pa_cons (pe_cG c__law_cell.fn hgd (hr.mono (by decide)) (by rfl) c__law_cell.mg c__law_cell.kp c__law_cell.b .nil VS.pass0 (pa_cons (pv 0) (pa_cons (pv 1) pa_nil))) pa_nil)))
        (pss_cons (ps_set (i := 3) sc_law.nd rfl (Or.inl rfl) (pe_cmpR op_eq (pe_cG c__law_take.fn hgd (hr.mono (by decide)) (by rfl) c__law_take.mg c__law_take.kp c__law_take.b .nil VS.pass0 (pa_cons (pv 2) (pa_cons pe_int pa_nil))) pe_int (nomark _)))
        (pss_cons (ps_set (i := 4) sc_law.nd rfl (Or.inl rfl) (pe_cG c__law_take.fn hgd (hr.mono (by decide)) (by rfl) c__law_take.mg c__law_take.kp c__law_take.b .nil VS.pass0 (pa_cons (pv 2) (pa_cons pe_int pa_nil))))
        (pss_cons (ps_set (i := 5) sc_law.nd rfl (Or.inl rfl) (pe_cG c__law_units.fn hgd (hr.mono (by decide)) (by rfl) c__law_units.mg c__law_units.kp c__law_units.b .nil VS.pass0 (pa_cons (pv 2) pa_nil)))
        (pss_cons (ps_set (i := 6) sc_law.nd rfl (Or.inl rfl) (pe_cG c__law_other_units.fn hgd (hr.mono (by decide)) (by rfl) c__law_other_units.mg c__law_other_units.kp c__law_other_units.b .nil VS.pass0 (pa_cons (pv 2) (pa_cons (pv 5) pa_nil))))
        (pss_cons (ps_setLc (i := 7) (own := [("_law_name", 16)]) rfl sc_law.nd rfl rfl (sw_true rfl rfl rfl (by decide +kernel)) (pi_list (pe_slice sl_list (pe_cG c__law_names.fn hgd (hr.mono (by decide)) (by rfl) c__law_names.mg c__law_names.kp c__law_names.b .nil VS.pass0 (pa_cons (pv 2) (pa_cons pe_int pa_nil))) po_none (po_some (pe_ifExp (pt_val (pv 3)) pe_int (pv 4))))) (blkOk_by (own := [("_law_name", 16)]) (N := n_law) (sc := defScope s_law) (by decide +kernel)) (fun _ _ _ _ _ => (pg_name (i := 16) sc_law.nd rfl (Or.inl rfl))) (fun _ _ _ _ _ => pts_nil) (fun _ _ _ _ _ => (pe_cG c__law_row.fn hgd (hr.mono (by decide)) (by rfl) c__law_row.mg c__law_row.kp c__law_row.b .nil VS.pass0 (pa_cons (pv 2) (pa_cons (pv 16) pa_nil)))))
        (pss_cons (ps_set (i := 8) sc_law.nd rfl (Or.inl rfl) (pe_cG c__law_loose_text.fn hgd (hr.mono (by decide)) (by rfl) c__law_loose_text.mg c__law_loose_text.kp c__law_loose_text.b .nil VS.pass0 (pa_cons (pv 2) (pa_cons (pv 5) (pa_cons (pv 7) (pa_cons (pv 3) pa_nil))))))
        (pss_cons (ps_par (i := 9) (j := 10) (by rfl) sc_law.nd rfl rfl (by decide) rfl rfl (pa_cons (pe_kG c_Measure.mk_ c_Measure.fn hgd (hr.mono (by decide)) (by rfl) c_Measure.mg  c_Measure.b .nil VS.pass0 (pa_cons pe_str (pa_cons (pv 5) pa_nil))) (pa_cons (pe_kG c_Measure.mk_ c_Measure.fn hgd (hr.mono (by decide)) (by rfl) c_Measure.mg  c_Measure.b .nil VS.pass0 (pa_cons pe_str (pa_cons (pv 6) pa_nil))) pa_nil)) (by rfl))
        (pss_cons (ps_set (i := 11) sc_law.nd rfl (Or.inl rfl) (pe_cG c_heap_retold.fn hgd (hr.mono (by decide)) (by rfl) c_heap_retold.mg c_heap_retold.kp c_heap_retold.b .nil VS.pass0 (pa_cons (pv 8) (pa_cons (pv 9) (pa_cons (pv 10) pa_nil)))))
        (pss_cons (ps_if (PW.pt (pw_or (pt_not (pt_val (pe_callB c_isiZ (by rfl) T.b_isinstance (by decide +kernel) (pa_cons (pv 11) (pa_cons (pe_bltn (v := .ty "str") (by rfl) T.b_str (by decide +kernel) rfl) pa_nil))))) (pw_or1 (pt_cmpR op_ne (pv 11) (pe_cG c__law_written.fn hgd (hr.mono (by decide)) (by rfl) c__law_written.mg c__law_written.kp c__law_written.b .nil VS.pass0 (pa_cons (pv 6) (pa_cons (pv 7) pa_nil))) (nomark _))))) (pss_one (ps_ret pe_bl))
        pss_nil)
        (pss_cons (ps_set (i := 12) sc_law.nd rfl (Or.inl rfl) (pe_cG c_heap_retold.fn hgd (hr.mono (by decide)) (by rfl) c_heap_retold.mg c_heap_retold.kp c_heap_retold.b .nil VS.pass0 (pa_cons (pv 11) (pa_cons (pv 10) (pa_cons (pv 9) pa_nil)))))
        (pss_cons (ps_if (PW.pt (pw_or (pt_cmpR op_ne (pv 12) (pe_cG c__law_written.fn hgd (hr.mono (by decide)) (by rfl) c__law_written.mg c__law_written.kp c__law_written.b .nil VS.pass0 (pa_cons (pv 5) (pa_cons (pv 7) pa_nil))) (nomark _)) (pw_or1 (pt_cmpR op_ne (pe_cG c_heap_retold.fn hgd (hr.mono (by decide)) (by rfl) c_heap_retold.mg c_heap_retold.kp c_heap_retold.b .nil VS.pass0 (pa_cons (pv 12) (pa_cons (pv 9) (pa_cons (pv 9) pa_nil)))) (pv 12) (nomark _))))) (pss_one (ps_ret pe_bl))
        pss_nil)
        (pss_cons (ps_if (PW.pt (pw_or (pt_cmpR op_ne (pe_cG c_heap_retold.fn hgd (hr.mono (by decide)) (by rfl) c_heap_retold.mg c_heap_retold.kp c_heap_retold.b .nil VS.pass0 (pa_cons (pv 12) (pa_cons (pv 9) (pa_cons (pv 10) pa_nil)))) (pv 11) (nomark _)) (pw_or1 (pt_cmpR op_ne (pe_cG c_heap_retold.fn hgd (hr.mono (by decide)) (by rfl) c_heap_retold.mg c_heap_retold.kp c_heap_retold.b .nil VS.pass0 (pa_cons (pv 8) (pa_cons (pv 9) (pa_cons (pv 9) pa_nil)))) (pv 12) (nomark _))))) (pss_one (ps_ret pe_bl))
        pss_nil)
        (pss_one (ps_for po rfl (pi_tup (pe_tup (pa_cons (pe_tup (pa_cons (pv 8) (pa_cons (pv 9) pa_nil))) (pa_cons (pe_tup (pa_cons (pv 11) (pa_cons (pv 10) pa_nil))) (pa_cons (pe_tup (pa_cons (pv 12) (pa_cons (pv 9) pa_nil))) pa_nil))))) (pg_tup (n := 2) rfl (pgs_cons (pg_name (i := 13) sc_law.nd rfl (Or.inl rfl)) (pgs_cons (pg_name (i := 14) sc_law.nd rfl (Or.inl rfl)) pgs_nil)))
        (pss_cons (ps_set (i := 15) sc_law.nd rfl (Or.inl rfl) (pe_cG c_read_heap.fn hgd (hr.mono (by decide)) (by rfl) c_read_heap.mg c_read_heap.kp c_read_heap.b .nil VS.pass0 (pa_cons (pv 13) (pa_cons (pv 14) pa_nil))))
        (pss_one (ps_if (PW.pt (pw_or (pt_not (pt_val (pe_cG c__law_is_heap.fn hgd (hr.mono (by decide)) (by rfl) c__law_is_heap.mg c__law_is_heap.kp c__law_is_heap.b .nil VS.pass0 (pa_cons (pv 15) (pa_cons (pv 7) pa_nil))))) (pw_or (pt_cmpR op_ne (pe_cG c_show_heap.fn hgd (hr.mono (by decide)) (by rfl) c_show_heap.mg c_show_heap.kp c_show_heap.b .nil VS.pass0 (pa_cons (pv 15) (pa_cons (pv 10) pa_nil))) (pv 11) (nomark _)) (pw_or1 (pt_cmpR op_ne (pe_cG c_show_heap.fn hgd (hr.mono (by decide)) (by rfl) c_show_heap.mg c_show_heap.kp c_show_heap.b .nil VS.pass0 (pa_cons (pv 15) (pa_cons (pv 9) pa_nil))) (pv 12) (nomark _)))))) (pss_one (ps_ret pe_bl))
        pss_nil)))))))))))))))))))
        (pss_one (ps_ret pe_bl))), ?_⟩
      (try dsimp only [cxOf, List.map])
      show VX _ _ [_, _, _, _, _, _, _, _, _, _, _, _, _, _, _, _, _] _ _
      have sz := szl
      walk_at "go"
      refine vx_for (vi_cells (by decide) (by decide) (by decide) rfl fun j j0 j1 => ?_)
      refine ⟨fun i ρ2 S2 => ∃ x1 x2 x3 x4 x5 x6 x7 x8 x9 x10 x11 x12 x13 x14 x15, ρ2 = [some (.rol (ns.map .int)), x1, x2, x3, x4, x5, x6, x7, x8, x9, x10, x11, x12, x13, x14, x15, none], ⟨_, _, _, _, _, _, _, _, _, _, _, _, _, _, _, rfl⟩, ?_, ?_⟩
      · rintro i0 d _ S2 hd ⟨x1, x2, x3, x4, x5, x6, x7, x8, x9, x10, x11, x12, x13, x14, x15, rfl⟩
        obtain ⟨rfl, hi⟩ := rngD_at hd
        walk_at "gr"
        intro p S3 hp h3 o3
        clear o3
        walk_at "gr"
        intro t S4 t0 t1 h4 o4
        clear h3 o4
        walk_at "gr"
        intro m S5 m0 m1 h5 o5
        clear h4 o5
        walk_at "gr"
        refine ⟨p, _, rfl, h5, by decide, fun us S6 g g7 h6 o6 => ?_⟩
        clear h5 o6
        walk_at "gr"
        refine ⟨p, _, us, rfl, h6, by decide, g, g7, fun us' S7 g' h7 o7 => ?_⟩
        clear h6 o7 g7
        walk_at "gr"
        refine ve_lc (vi_list ?_)
        walk_at "gr"
        refine ⟨p, _, 12, rfl, h7, by decide, by decide, by decide, fun zs S8 lz hz nz h8 o8 => ?_⟩
        clear h7 o8
        have lz : zs.length = 12 := by omega
        walk_at "gr"
        obtain ⟨A, hA⟩ : ∃ A : D → Sto → Prop, A = fun d S' => ∃ v : Nat, d = .int v ∧ v ≤ 12 ∧ S' = S8 := ⟨_, rfl⟩
        apply joinD (A := A)
        · intro R
          refine VS.br (fun e => ?_) (fun e => ?_)
          · refine ve_int ?_
            have a : A (.int 12) S8 := by rw [hA]; exact ⟨12, rfl, by decide, rfl⟩
            generalize D.int 12 = d0 at a ⊢
            generalize S8 = S9 at a ⊢
            exact R _ _ a
          · refine ve_var rfl ?_
            obtain ⟨v, hv⟩ := Int.eq_ofNat_of_zero_le m0
            have a : A (.int m) S8 := by rw [hA]; exact ⟨v, by rw [hv], by omega, rfl⟩
            exact R _ _ a
        intro d0 S9 a
        rw [hA] at a
        obtain ⟨v, rfl, v12, rfl⟩ := a
        clear hA
        walk_at "gr"
        refine rs_list .v ?_
        rw [cutD_toS]
        have zl : (zs.take v).length = v := by rw [List.length_take]; omega
        have zn : (zs.take v).Nodup := nz.sublist (List.take_sublist _ _)
        have zN : ∀ z ∈ zs.take v, Nm z := fun z h => hz z (List.mem_of_mem_take h)
        generalize zs.take v = ys at zl zn zN ⊢
        clear hz nz lz hp t0 t1 m0 m1
        refine ⟨_, .v, by rw [List.length_map]; omega, fun i acc S2 => ∃ rs : List Pc, acc = rs.map rwD ∧ rs.map Pc.nm = ys.take i ∧ (∀ r ∈ rs, Rwg r) ∧ Pu S2 p (112 + 20 * (i : Nat)), ⟨[], rfl, rfl, nofun, h8.mono (by omega)⟩, ?_, ?_⟩
        · rintro i d acc S2 hd ⟨rs, rfl, hn, hg, h2⟩ _
          rw [List.getElem?_map] at hd
          obtain ⟨z, hz, rfl⟩ := Option.map_eq_some_iff.mp hd
          have hi : i < ys.length := (List.getElem?_eq_some_iff.mp hz).1
          walk_at "gr"
          refine ⟨p, _, z, rfl, h2, by omega, zN z (List.mem_of_getElem? hz), fun r S9 en gr h9 _ => ?_⟩
          refine ⟨rs ++ [r], by rw [List.map_append] <;> rfl, ?_, fun x hx => ?_, h9.mono (by push_cast; omega)⟩
          · rw [List.map_append, hn, List.take_succ, hz]
            show _ ++ [r.nm] = _ ++ [z]
            rw [en]
          · rcases List.mem_append.mp hx with hx | hx
            · exact hg x hx
            · rw [List.mem_singleton.mp hx]; exact gr
        clear h8
        rintro acc S2 ⟨rs, rfl, hn, hg, h2⟩ _
        rw [List.length_map] at hn h2
        rw [List.take_length] at hn
        have lr : rs.length = v := by rw [← zl, ← hn, List.length_map]
        have hrs : Hrs rs := ⟨hg, by rw [hn]; exact zn, by omega⟩
        have hps := hrs.hps
        have h2 : Pu S2 p 400 := h2.mono (by omega)
        clear hn zn zN zl hg
        walk_at "gr"
        refine ⟨p, _, us, rs, _, rfl, h2, by decide, g, hrs.g, hrs.l, fun ts S3 et gt _ _ => ?_⟩
        have hts : Hts us ts := ⟨gt, by rw [← List.length_map (f := Ht.p), et]; exact hrs.l, by rw [et]; exact hrs.n⟩
        obtain ⟨ts', gt', et', ex'⟩ := hp_hts g' hps hrs.mks
        obtain ⟨ts2, gt2, et2, ex2⟩ := hp_hts g hps hrs.mks
        clear h2 gt
        walk_at "gr"
        refine fun y hy => ⟨y, "old", us, rfl, put_same, by decide +kernel, by decide, g, rfl, y, _, rfl, put_same, nofun, ?_⟩
        rw [del_put2 hy]
        walk_at "gr"
        refine fun y hy => ⟨y, "new", us', rfl, put_same, by decide +kernel, by decide, g', rfl, y, _, rfl, put_same, nofun, ?_⟩
        rw [del_put2 hy]
        walk_at "gr"
        refine ⟨ts, "old", "new", us, us', rfl, g, g', hts, fun S5 _ => ?_⟩
        rw [et]
        walk_at "gr"
        refine ⟨us', rs, rfl, g', hps.g, hps.l, ?_⟩
        refine rv_neSame ?_
        walk_at "gr"
        refine ⟨ts', "new", "old", us', us, by rw [ex'], g', g, gt', fun S6 _ => ?_⟩
        rw [et']
        walk_at "gr"
        refine ⟨us, rs, rfl, g, hps.g, hps.l, ?_⟩
        refine rv_neSame ?_
        walk_at "gr"
        refine ⟨ts2, "old", "old", us, us, by rw [ex2], g, g, gt2, fun S7 _ => ?_⟩
        rw [et2]
        refine ve_var rfl ?_
        refine rv_neSame ?_
        walk_at "gr"
        refine ⟨ts2, "old", "new", us, us', by rw [ex2], g, g', gt2, fun S8 _ => ?_⟩
        rw [et2]
        refine ve_var rfl ?_
        refine rv_neSame ?_
        walk_at "gr"
        refine ⟨ts, "old", "old", us, us, rfl, g, g, hts, fun S9 _ => ?_⟩
        rw [et]
        refine ve_var rfl ?_
        refine rv_neSame ?_
        walk_at "gr"
        refine vx_for (vi_tup ?_)
        walk_at "gr"
        have key : ∀ d ∈ [D.tup [.str (hxS ts), msD C_Measure "old" us], .tup [.str (hpS us' rs), msD C_Measure "new" us'], .tup [.str (hpS us rs), msD C_Measure "old" us]], ∃ tt nm vs, d = .tup [.str (hxS tt), msD C_Measure nm vs] ∧ Ug vs ∧ Hts vs tt ∧ tt.map Ht.p = rs := fun d hd => by
          simp only [List.mem_cons, List.not_mem_nil, or_false] at hd
          rcases hd with rfl | rfl | rfl
          · exact ⟨ts, _, us, rfl, g, hts, et⟩
          · exact ⟨ts', _, us', by rw [ex'], g', gt', et'⟩
          · exact ⟨ts2, _, us, by rw [ex2], g, gt2, et2⟩
        refine ⟨_, rfl, fun i ρ2 S10 => ∃ x13 x14 x15, ρ2 = [some (.rol (ns.map .int)), some (.int (i0 : Nat)), some (.ref p), some (.bl (decide (t = 0))), some (.int m), some (.lst (us.map uD)), some (.lst (us'.map uD)), some (.lst (rs.map rwD)), some (.str (hxS ts)), some (msD C_Measure "old" us), some (msD C_Measure "new" us'), some (.str (hpS us' rs)), some (.str (hpS us rs)), x13, x14, x15, none], ⟨_, _, _, rfl⟩, ?_, ?_⟩
        · rintro i d _ S10 hd ⟨y13, y14, y15, rfl⟩
          obtain ⟨tt, nm, vs, rfl, gv, gtt, ett⟩ := key d (List.mem_of_getElem? hd)
          clear key hd
          walk_at "gr"
          refine ⟨tt, nm, vs, rfl, gv, gtt, fun h' l' S11 nh nl x hs => ?_⟩
          rw [ett] at hs
          walk_at "gr"
          refine ⟨h', l', rs, rfl, hs, hrs, fun S12 x => ?_⟩
          have hs := hs.ext x
          walk_at "gr"
          refine ⟨_, rs, _, us', rfl, hs.is, hps.g, hps.l, g', ?_⟩
          refine ve_var rfl ?_
          refine rv_neSame ?_
          walk_at "gr"
          refine ⟨_, rs, _, us, rfl, hs.is, hps.g, hps.l, g, ?_⟩
          refine ve_var rfl ?_
          refine rv_neSame ?_
          walk_at "gr"
          exact ⟨_, _, _, rfl⟩
        · rintro _ S10 ⟨y13, y14, y15, rfl⟩
          walk_at "gr"
          exact ⟨_, _, _, _, _, _, _, _, _, _, _, _, _, _, _, rfl⟩
      · rintro _ S2 ⟨x1, x2, x3, x4, x5, x6, x7, x8, x9, x10, x11, x12, x13, x14, x15, rfl⟩
        walk_at "gr"
        exact q _) only [↓VS.box]
end
end LW
namespace LW
open PySem L2 C8 PySem.Spec PyProof.Rows
theorem fd_mk {K : PySem.W.Frag} {x qual : Str} {st : Stmt} {f : Addr} {od an : Option Addr} {sl : Array (Option Value)} {oc kV dc pm cd ct : Value}
    (l : K.lookup f = some ⟨oc, od, .func (PySem.W.fnOf x qual (defArgs st) (defBody st) (defScope st) .none kV dc pm an cd ct), sl⟩) (c : PySem.W.codeIn K cd qual = true) (k : PySem.W.keepIn K (.ref f) = true) : VS.Fd K x qual st [] f (PySem.W.fnOf x qual (defArgs st) (defBody st) (defScope st) .none kV dc pm an cd ct) :=
  ⟨⟨oc, od, .none, kV, dc, pm, an, cd, ct, sl, rfl, l, c, .inl ⟨rfl, rfl⟩, .inl rfl⟩, k⟩
theorem fd_mkD {K : PySem.W.Frag} {x qual : Str} {st : Stmt} {dvs : List V} {its : Array Value} {f T : Addr} {od an dd : Option Addr} {sl ds : Array (Option Value)} {oc kV dc pm cd ct dc2 : Value} {dn : Nat}
    (l : K.lookup f = some ⟨oc, od, .func (PySem.W.fnOf x qual (defArgs st) (defBody st) (defScope st) (.ref T) kV dc pm an cd ct), sl⟩) (c : PySem.W.codeIn K cd qual = true) (k : PySem.W.keepIn K (.ref f) = true) (hd : dvs ≠ [])
    (lT : K.lookup T = some ⟨dc2, dd, .seq its dn, ds⟩) (v : Vals dvs its.toList) : VS.Fd K x qual st dvs f (PySem.W.fnOf x qual (defArgs st) (defBody st) (defScope st) (.ref T) kV dc pm an cd ct) :=
  ⟨⟨oc, od, .ref T, kV, dc, pm, an, cd, ct, sl, rfl, l, c, .inr ⟨hd, T, _, its.toList, dn, rfl, lT, by simp, v⟩, .inl rfl⟩, k⟩
theorem all_mk {l : PySem.W.OpenLaw} {w : World} {K : PySem.W.Frag} {h : Heap} {mg : Str → Option Value} {fa C_Measure C_Sides C_Parcel C_Heap C_NoNumber C_NoSize C_NoMeasure C_NoSide C_NoOrder C_NoSides BNoNumber_0 fXNoNumber BNoSize_0 fXNoSize BNoMeasure_0 fXNoMeasure BNoSide_0 fXNoSide BNoOrder_0 fXNoOrder BNoSides_0 fXNoSides f0 f1 f2 f3 f4 f5 f6 f7 T7 f8 f9 f10 f11 f12 f13 f14 f15 f16 T16 f17 f18 f19 f20 f21 f22 f23 f24 f25 f26 f27 f28 f29 f30 f31 f32 f33 f34 f35 f36 f37 f38 f39 f40 f41 f42 f43 f44 f45 f46 f47 f48 f49 f50 f51 f52 f53 f54 f55 f56 f57 f58 f59 f60 : Addr} (X : K.In h) (G : h.Ns mainGlobals mg) (hfa : mg "law" = some (.ref fa))
    (aKMeasure : PySem.W.nsIn K mainGlobals "Measure" = some (some (.ref C_Measure)))
    (pgKMeasure : PySem.W.plainGet K C_Measure Str.empty = true)
    (hdKMeasure : PySem.W.hasDictIn K C_Measure = true)
    (poKMeasure : PySem.W.plainOver K C_Measure = true)
    (saKMeasure : PySem.W.findIn K (.ref C_Measure) "__setattr__" = some (some (.builtin "object.__setattr__")))
    (haKMeasure : PySem.W.findIn K (.ref C_Measure) "__class__" = some (some (.builtin "object.__class__")))
    (hmKMeasure : PySem.W.mroIn K C_Measure (.type "object") = some true)
    (icKMeasure : PySem.W.isClsIn K C_Measure = true)
    (tcKMeasure : PySem.W.typeIn K (.ref C_Measure) = some (.type "type"))
    (nKMeasure_called : PySem.W.findIn K (.ref C_Measure) "called" = some none)
    (nKMeasure_parts : PySem.W.findIn K (.ref C_Measure) "parts" = some none)
    (zKMeasure_int : PySem.W.subIn K (.type "int") (.ref C_Measure) = some false)
    (zKMeasure_bool : PySem.W.subIn K (.type "bool") (.ref C_Measure) = some false)
    (zKMeasure_str : PySem.W.subIn K (.type "str") (.ref C_Measure) = some false)
    (zKMeasure_NoneType : PySem.W.subIn K (.type "NoneType") (.ref C_Measure) = some false)
    (zKMeasure_list : PySem.W.subIn K (.type "list") (.ref C_Measure) = some false)
    (zKMeasure_tuple : PySem.W.subIn K (.type "tuple") (.ref C_Measure) = some false)
    (zKMeasure_dict : PySem.W.subIn K (.type "dict") (.ref C_Measure) = some false)
    (mKMeasure_0 : PySem.W.subIn K (.ref C_Measure) (.type "int") = some false)
    (mKMeasure_1 : PySem.W.subIn K (.ref C_Measure) (.type "str") = some false)
    (mKMeasure_2 : PySem.W.subIn K (.ref C_Measure) (.type "list") = some false)
    (aKSides : PySem.W.nsIn K mainGlobals "Sides" = some (some (.ref C_Sides)))
    (pgKSides : PySem.W.plainGet K C_Sides Str.empty = true)
    (hdKSides : PySem.W.hasDictIn K C_Sides = true)
    (poKSides : PySem.W.plainOver K C_Sides = true)
    (saKSides : PySem.W.findIn K (.ref C_Sides) "__setattr__" = some (some (.builtin "object.__setattr__")))
    (haKSides : PySem.W.findIn K (.ref C_Sides) "__class__" = some (some (.builtin "object.__class__")))
    (hmKSides : PySem.W.mroIn K C_Sides (.type "object") = some true)
    (icKSides : PySem.W.isClsIn K C_Sides = true)
    (tcKSides : PySem.W.typeIn K (.ref C_Sides) = some (.type "type"))
    (nKSides_three : PySem.W.findIn K (.ref C_Sides) "three" = some none)
    (zKSides_int : PySem.W.subIn K (.type "int") (.ref C_Sides) = some false)
    (zKSides_bool : PySem.W.subIn K (.type "bool") (.ref C_Sides) = some false)
    (zKSides_str : PySem.W.subIn K (.type "str") (.ref C_Sides) = some false)
    (zKSides_NoneType : PySem.W.subIn K (.type "NoneType") (.ref C_Sides) = some false)
    (zKSides_list : PySem.W.subIn K (.type "list") (.ref C_Sides) = some false)
    (zKSides_tuple : PySem.W.subIn K (.type "tuple") (.ref C_Sides) = some false)
    (zKSides_dict : PySem.W.subIn K (.type "dict") (.ref C_Sides) = some false)
    (aKParcel : PySem.W.nsIn K mainGlobals "Parcel" = some (some (.ref C_Parcel)))
    (pgKParcel : PySem.W.plainGet K C_Parcel Str.empty = true)
    (hdKParcel : PySem.W.hasDictIn K C_Parcel = true)
    (poKParcel : PySem.W.plainOver K C_Parcel = true)
    (saKParcel : PySem.W.findIn K (.ref C_Parcel) "__setattr__" = some (some (.builtin "object.__setattr__")))
    (haKParcel : PySem.W.findIn K (.ref C_Parcel) "__class__" = some (some (.builtin "object.__class__")))
    (hmKParcel : PySem.W.mroIn K C_Parcel (.type "object") = some true)
    (icKParcel : PySem.W.isClsIn K C_Parcel = true)
    (tcKParcel : PySem.W.typeIn K (.ref C_Parcel) = some (.type "type"))
    (nKParcel_called : PySem.W.findIn K (.ref C_Parcel) "called" = some none)
    (nKParcel_outside : PySem.W.findIn K (.ref C_Parcel) "outside" = some none)
    (nKParcel_thick : PySem.W.findIn K (.ref C_Parcel) "thick" = some none)
    (nKParcel_heavy : PySem.W.findIn K (.ref C_Parcel) "heavy" = some none)
    (nKParcel_strong : PySem.W.findIn K (.ref C_Parcel) "strong" = some none)
    (nKParcel_marks : PySem.W.findIn K (.ref C_Parcel) "marks" = some none)
    (zKParcel_int : PySem.W.subIn K (.type "int") (.ref C_Parcel) = some false)
    (zKParcel_bool : PySem.W.subIn K (.type "bool") (.ref C_Parcel) = some false)
    (zKParcel_str : PySem.W.subIn K (.type "str") (.ref C_Parcel) = some false)
    (zKParcel_NoneType : PySem.W.subIn K (.type "NoneType") (.ref C_Parcel) = some false)
    (zKParcel_list : PySem.W.subIn K (.type "list") (.ref C_Parcel) = some false)
    (zKParcel_tuple : PySem.W.subIn K (.type "tuple") (.ref C_Parcel) = some false)
    (zKParcel_dict : PySem.W.subIn K (.type "dict") (.ref C_Parcel) = some false)
    (mKParcel_0 : PySem.W.mroIn K C_Parcel (.type "object") = some true)
    (mKParcel_1 : PySem.W.findIn K (.ref C_Parcel) "__ne__" = some (some (.builtin "object.__ne__")))
    (aKHeap : PySem.W.nsIn K mainGlobals "Heap" = some (some (.ref C_Heap)))
    (pgKHeap : PySem.W.plainGet K C_Heap Str.empty = true)
    (hdKHeap : PySem.W.hasDictIn K C_Heap = true)
    (poKHeap : PySem.W.plainOver K C_Heap = true)
    (saKHeap : PySem.W.findIn K (.ref C_Heap) "__setattr__" = some (some (.builtin "object.__setattr__")))
    (haKHeap : PySem.W.findIn K (.ref C_Heap) "__class__" = some (some (.builtin "object.__class__")))
    (hmKHeap : PySem.W.mroIn K C_Heap (.type "object") = some true)
    (icKHeap : PySem.W.isClsIn K C_Heap = true)
    (tcKHeap : PySem.W.typeIn K (.ref C_Heap) = some (.type "type"))
    (nKHeap_held : PySem.W.findIn K (.ref C_Heap) "held" = some none)
    (hnO : PySem.W.specialIn K (.builtin "object.__class__") "__get__" = some (some (.builtin "getset_descriptor.__get__"))) (htkO : PySem.W.takesIn K (.builtin "object.__class__") = some true)
    {nmXNoNumber qnXNoNumber : Str} {NXNoNumber : Addr} {bsXNoNumber : List Value} {snXNoNumber : List Str} {suXNoNumber : List Value} {abXNoNumber : Bool} {coXNoNumber : Option Bool} {ddXNoNumber : Option Addr} {k0XNoNumber k1XNoNumber k2XNoNumber k3XNoNumber k5XNoNumber : Option Value}
    (aXNoNumber : PySem.W.nsIn K mainGlobals "NoNumber" = some (some (.ref C_NoNumber)))
    (xXNoNumber : K.lookup C_NoNumber = some (excClassObj nmXNoNumber qnXNoNumber C_NoNumber NXNoNumber bsXNoNumber [.ref BNoNumber_0, .type "ValueError", .type "Exception", .type "BaseException", .type "object"] true snXNoNumber suXNoNumber abXNoNumber coXNoNumber ddXNoNumber k0XNoNumber k1XNoNumber k2XNoNumber k3XNoNumber k5XNoNumber "ValueError.__new__"))
    (saXNoNumber : PySem.W.findIn K (.ref C_NoNumber) "__setattr__" = some (some (.builtin "object.__setattr__")))
    (gaXNoNumber : PySem.W.findIn K (.ref C_NoNumber) "__getattribute__" = some (some (.builtin "BaseException.__getattribute__")))
    (ggXNoNumber : PySem.W.findIn K (.ref C_NoNumber) "__getattr__" = some none)
    (noXNoNumber : PySem.W.findIn K (.ref C_NoNumber) "found" = some none)
    (exXNoNumber : PySem.W.subIn K (.ref C_NoNumber) (.type "BaseException") = some true)
    (tyXNoNumber : PySem.W.typeIn K (.ref C_NoNumber) = some (.type "type"))
    (kcXNoNumber : PySem.W.keepIn K (.ref C_NoNumber) = true)
    (hdXNoNumber : PySem.W.hasDictIn K C_NoNumber = true)
    (iXNoNumber : PySem.W.findIn K (.ref C_NoNumber) "__init__" = some (some (.ref fXNoNumber))) (tXNoNumber : PySem.W.typeIn K (.ref fXNoNumber) = some (.type "function"))
    {odXNoNumber anXNoNumber : Option Addr} {slXNoNumber : Array (Option Value)} {ocXNoNumber kVXNoNumber dcXNoNumber pmXNoNumber cdXNoNumber ctXNoNumber : Value}
    (lXNoNumber : K.lookup fXNoNumber = some ⟨ocXNoNumber, odXNoNumber, .func (PySem.W.fnOf "__init__" "NoNumber.__init__" (defArgs s_NoNumber___init__) (defBody s_NoNumber___init__) (defScope s_NoNumber___init__) .none kVXNoNumber dcXNoNumber pmXNoNumber anXNoNumber cdXNoNumber ctXNoNumber), slXNoNumber⟩) (cXNoNumber : PySem.W.codeIn K cdXNoNumber "NoNumber.__init__" = true) (kXNoNumber : PySem.W.keepIn K (.ref fXNoNumber) = true)
    {nmXNoSize qnXNoSize : Str} {NXNoSize : Addr} {bsXNoSize : List Value} {snXNoSize : List Str} {suXNoSize : List Value} {abXNoSize : Bool} {coXNoSize : Option Bool} {ddXNoSize : Option Addr} {k0XNoSize k1XNoSize k2XNoSize k3XNoSize k5XNoSize : Option Value}
    (aXNoSize : PySem.W.nsIn K mainGlobals "NoSize" = some (some (.ref C_NoSize)))
    (xXNoSize : K.lookup C_NoSize = some (excClassObj nmXNoSize qnXNoSize C_NoSize NXNoSize bsXNoSize [.ref BNoSize_0, .type "ValueError", .type "Exception", .type "BaseException", .type "object"] true snXNoSize suXNoSize abXNoSize coXNoSize ddXNoSize k0XNoSize k1XNoSize k2XNoSize k3XNoSize k5XNoSize "ValueError.__new__"))
    (saXNoSize : PySem.W.findIn K (.ref C_NoSize) "__setattr__" = some (some (.builtin "object.__setattr__")))
    (gaXNoSize : PySem.W.findIn K (.ref C_NoSize) "__getattribute__" = some (some (.builtin "BaseException.__getattribute__")))
    (ggXNoSize : PySem.W.findIn K (.ref C_NoSize) "__getattr__" = some none)
    (noXNoSize : PySem.W.findIn K (.ref C_NoSize) "found" = some none)
    (exXNoSize : PySem.W.subIn K (.ref C_NoSize) (.type "BaseException") = some true)
    (tyXNoSize : PySem.W.typeIn K (.ref C_NoSize) = some (.type "type"))
    (kcXNoSize : PySem.W.keepIn K (.ref C_NoSize) = true)
    (hdXNoSize : PySem.W.hasDictIn K C_NoSize = true)
    (iXNoSize : PySem.W.findIn K (.ref C_NoSize) "__init__" = some (some (.ref fXNoSize))) (tXNoSize : PySem.W.typeIn K (.ref fXNoSize) = some (.type "function"))
    {odXNoSize anXNoSize : Option Addr} {slXNoSize : Array (Option Value)} {ocXNoSize kVXNoSize dcXNoSize pmXNoSize cdXNoSize ctXNoSize : Value}
    (lXNoSize : K.lookup fXNoSize = some ⟨ocXNoSize, odXNoSize, .func (PySem.W.fnOf "__init__" "NoSize.__init__" (defArgs s_NoSize___init__) (defBody s_NoSize___init__) (defScope s_NoSize___init__) .none kVXNoSize dcXNoSize pmXNoSize anXNoSize cdXNoSize ctXNoSize), slXNoSize⟩) (cXNoSize : PySem.W.codeIn K cdXNoSize "NoSize.__init__" = true) (kXNoSize : PySem.W.keepIn K (.ref fXNoSize) = true)
    {nmXNoMeasure qnXNoMeasure : Str} {NXNoMeasure : Addr} {bsXNoMeasure : List Value} {snXNoMeasure : List Str} {suXNoMeasure : List Value} {abXNoMeasure : Bool} {coXNoMeasure : Option Bool} {ddXNoMeasure : Option Addr} {k0XNoMeasure k1XNoMeasure k2XNoMeasure k3XNoMeasure k5XNoMeasure : Option Value}
    (aXNoMeasure : PySem.W.nsIn K mainGlobals "NoMeasure" = some (some (.ref C_NoMeasure)))
    (xXNoMeasure : K.lookup C_NoMeasure = some (excClassObj nmXNoMeasure qnXNoMeasure C_NoMeasure NXNoMeasure bsXNoMeasure [.ref BNoMeasure_0, .type "ValueError", .type "Exception", .type "BaseException", .type "object"] true snXNoMeasure suXNoMeasure abXNoMeasure coXNoMeasure ddXNoMeasure k0XNoMeasure k1XNoMeasure k2XNoMeasure k3XNoMeasure k5XNoMeasure "ValueError.__new__"))
    (saXNoMeasure : PySem.W.findIn K (.ref C_NoMeasure) "__setattr__" = some (some (.builtin "object.__setattr__")))
    (gaXNoMeasure : PySem.W.findIn K (.ref C_NoMeasure) "__getattribute__" = some (some (.builtin "BaseException.__getattribute__")))
    (ggXNoMeasure : PySem.W.findIn K (.ref C_NoMeasure) "__getattr__" = some none)
    (noXNoMeasure : PySem.W.findIn K (.ref C_NoMeasure) "found" = some none)
    (exXNoMeasure : PySem.W.subIn K (.ref C_NoMeasure) (.type "BaseException") = some true)
    (tyXNoMeasure : PySem.W.typeIn K (.ref C_NoMeasure) = some (.type "type"))
    (kcXNoMeasure : PySem.W.keepIn K (.ref C_NoMeasure) = true)
    (hdXNoMeasure : PySem.W.hasDictIn K C_NoMeasure = true)
    (iXNoMeasure : PySem.W.findIn K (.ref C_NoMeasure) "__init__" = some (some (.ref fXNoMeasure))) (tXNoMeasure : PySem.W.typeIn K (.ref fXNoMeasure) = some (.type "function"))
    {odXNoMeasure anXNoMeasure : Option Addr} {slXNoMeasure : Array (Option Value)} {ocXNoMeasure kVXNoMeasure dcXNoMeasure pmXNoMeasure cdXNoMeasure ctXNoMeasure : Value}
    (lXNoMeasure : K.lookup fXNoMeasure = some ⟨ocXNoMeasure, odXNoMeasure, .func (PySem.W.fnOf "__init__" "NoMeasure.__init__" (defArgs s_NoMeasure___init__) (defBody s_NoMeasure___init__) (defScope s_NoMeasure___init__) .none kVXNoMeasure dcXNoMeasure pmXNoMeasure anXNoMeasure cdXNoMeasure ctXNoMeasure), slXNoMeasure⟩) (cXNoMeasure : PySem.W.codeIn K cdXNoMeasure "NoMeasure.__init__" = true) (kXNoMeasure : PySem.W.keepIn K (.ref fXNoMeasure) = true)
    {nmXNoSide qnXNoSide : Str} {NXNoSide : Addr} {bsXNoSide : List Value} {snXNoSide : List Str} {suXNoSide : List Value} {abXNoSide : Bool} {coXNoSide : Option Bool} {ddXNoSide : Option Addr} {k0XNoSide k1XNoSide k2XNoSide k3XNoSide k5XNoSide : Option Value}
    (aXNoSide : PySem.W.nsIn K mainGlobals "NoSide" = some (some (.ref C_NoSide)))
    (xXNoSide : K.lookup C_NoSide = some (excClassObj nmXNoSide qnXNoSide C_NoSide NXNoSide bsXNoSide [.ref BNoSide_0, .type "ValueError", .type "Exception", .type "BaseException", .type "object"] true snXNoSide suXNoSide abXNoSide coXNoSide ddXNoSide k0XNoSide k1XNoSide k2XNoSide k3XNoSide k5XNoSide "ValueError.__new__"))
    (saXNoSide : PySem.W.findIn K (.ref C_NoSide) "__setattr__" = some (some (.builtin "object.__setattr__")))
    (gaXNoSide : PySem.W.findIn K (.ref C_NoSide) "__getattribute__" = some (some (.builtin "BaseException.__getattribute__")))
    (ggXNoSide : PySem.W.findIn K (.ref C_NoSide) "__getattr__" = some none)
    (noXNoSide : PySem.W.findIn K (.ref C_NoSide) "found" = some none)
    (exXNoSide : PySem.W.subIn K (.ref C_NoSide) (.type "BaseException") = some true)
    (tyXNoSide : PySem.W.typeIn K (.ref C_NoSide) = some (.type "type"))
    (kcXNoSide : PySem.W.keepIn K (.ref C_NoSide) = true)
    (hdXNoSide : PySem.W.hasDictIn K C_NoSide = true)
    (iXNoSide : PySem.W.findIn K (.ref C_NoSide) "__init__" = some (some (.ref fXNoSide))) (tXNoSide : PySem.W.typeIn K (.ref fXNoSide) = some (.type "function"))
    {odXNoSide anXNoSide : Option Addr} {slXNoSide : Array (Option Value)} {ocXNoSide kVXNoSide dcXNoSide pmXNoSide cdXNoSide ctXNoSide : Value}
    (lXNoSide : K.lookup fXNoSide = some ⟨ocXNoSide, odXNoSide, .func (PySem.W.fnOf "__init__" "NoSide.__init__" (defArgs s_NoSide___init__) (defBody s_NoSide___init__) (defScope s_NoSide___init__) .none kVXNoSide dcXNoSide pmXNoSide anXNoSide cdXNoSide ctXNoSide), slXNoSide⟩) (cXNoSide : PySem.W.codeIn K cdXNoSide "NoSide.__init__" = true) (kXNoSide : PySem.W.keepIn K (.ref fXNoSide) = true)
    {nmXNoOrder qnXNoOrder : Str} {NXNoOrder : Addr} {bsXNoOrder : List Value} {snXNoOrder : List Str} {suXNoOrder : List Value} {abXNoOrder : Bool} {coXNoOrder : Option Bool} {ddXNoOrder : Option Addr} {k0XNoOrder k1XNoOrder k2XNoOrder k3XNoOrder k5XNoOrder : Option Value}
    (aXNoOrder : PySem.W.nsIn K mainGlobals "NoOrder" = some (some (.ref C_NoOrder)))
    (xXNoOrder : K.lookup C_NoOrder = some (excClassObj nmXNoOrder qnXNoOrder C_NoOrder NXNoOrder bsXNoOrder [.ref BNoOrder_0, .type "ValueError", .type "Exception", .type "BaseException", .type "object"] true snXNoOrder suXNoOrder abXNoOrder coXNoOrder ddXNoOrder k0XNoOrder k1XNoOrder k2XNoOrder k3XNoOrder k5XNoOrder "ValueError.__new__"))
    (saXNoOrder : PySem.W.findIn K (.ref C_NoOrder) "__setattr__" = some (some (.builtin "object.__setattr__")))
    (gaXNoOrder : PySem.W.findIn K (.ref C_NoOrder) "__getattribute__" = some (some (.builtin "BaseException.__getattribute__")))
    (ggXNoOrder : PySem.W.findIn K (.ref C_NoOrder) "__getattr__" = some none)
    (noXNoOrder : PySem.W.findIn K (.ref C_NoOrder) "found" = some none)
    (exXNoOrder : PySem.W.subIn K (.ref C_NoOrder) (.type "BaseException") = some true)
    (tyXNoOrder : PySem.W.typeIn K (.ref C_NoOrder) = some (.type "type"))
    (kcXNoOrder : PySem.W.keepIn K (.ref C_NoOrder) = true)
    (hdXNoOrder : PySem.W.hasDictIn K C_NoOrder = true)
    (iXNoOrder : PySem.W.findIn K (.ref C_NoOrder) "__init__" = some (some (.ref fXNoOrder))) (tXNoOrder : PySem.W.typeIn K (.ref fXNoOrder) = some (.type "function"))
    {odXNoOrder anXNoOrder : Option Addr} {slXNoOrder : Array (Option Value)} {ocXNoOrder kVXNoOrder dcXNoOrder pmXNoOrder cdXNoOrder ctXNoOrder : Value}
    (lXNoOrder : K.lookup fXNoOrder = some ⟨ocXNoOrder, odXNoOrder, .func (PySem.W.fnOf "__init__" "NoOrder.__init__" (defArgs s_NoOrder___init__) (defBody s_NoOrder___init__) (defScope s_NoOrder___init__) .none kVXNoOrder dcXNoOrder pmXNoOrder anXNoOrder cdXNoOrder ctXNoOrder), slXNoOrder⟩) (cXNoOrder : PySem.W.codeIn K cdXNoOrder "NoOrder.__init__" = true) (kXNoOrder : PySem.W.keepIn K (.ref fXNoOrder) = true)
    {nmXNoSides qnXNoSides : Str} {NXNoSides : Addr} {bsXNoSides : List Value} {snXNoSides : List Str} {suXNoSides : List Value} {abXNoSides : Bool} {coXNoSides : Option Bool} {ddXNoSides : Option Addr} {k0XNoSides k1XNoSides k2XNoSides k3XNoSides k5XNoSides : Option Value}
    (aXNoSides : PySem.W.nsIn K mainGlobals "NoSides" = some (some (.ref C_NoSides)))
    (xXNoSides : K.lookup C_NoSides = some (excClassObj nmXNoSides qnXNoSides C_NoSides NXNoSides bsXNoSides [.ref BNoSides_0, .type "ValueError", .type "Exception", .type "BaseException", .type "object"] true snXNoSides suXNoSides abXNoSides coXNoSides ddXNoSides k0XNoSides k1XNoSides k2XNoSides k3XNoSides k5XNoSides "ValueError.__new__"))
    (saXNoSides : PySem.W.findIn K (.ref C_NoSides) "__setattr__" = some (some (.builtin "object.__setattr__")))
    (gaXNoSides : PySem.W.findIn K (.ref C_NoSides) "__getattribute__" = some (some (.builtin "BaseException.__getattribute__")))
    (ggXNoSides : PySem.W.findIn K (.ref C_NoSides) "__getattr__" = some none)
    (noXNoSides : PySem.W.findIn K (.ref C_NoSides) "found" = some none)
    (exXNoSides : PySem.W.subIn K (.ref C_NoSides) (.type "BaseException") = some true)
    (tyXNoSides : PySem.W.typeIn K (.ref C_NoSides) = some (.type "type"))
    (kcXNoSides : PySem.W.keepIn K (.ref C_NoSides) = true)
    (hdXNoSides : PySem.W.hasDictIn K C_NoSides = true)
    (iXNoSides : PySem.W.findIn K (.ref C_NoSides) "__init__" = some (some (.ref fXNoSides))) (tXNoSides : PySem.W.typeIn K (.ref fXNoSides) = some (.type "function"))
    {odXNoSides anXNoSides : Option Addr} {slXNoSides : Array (Option Value)} {ocXNoSides kVXNoSides dcXNoSides pmXNoSides cdXNoSides ctXNoSides : Value}
    (lXNoSides : K.lookup fXNoSides = some ⟨ocXNoSides, odXNoSides, .func (PySem.W.fnOf "__init__" "NoSides.__init__" (defArgs s_NoSides___init__) (defBody s_NoSides___init__) (defScope s_NoSides___init__) .none kVXNoSides dcXNoSides pmXNoSides anXNoSides cdXNoSides ctXNoSides), slXNoSides⟩) (cXNoSides : PySem.W.codeIn K cdXNoSides "NoSides.__init__" = true) (kXNoSides : PySem.W.keepIn K (.ref fXNoSides) = true)
    (a0 : PySem.W.nsIn K mainGlobals "is_whole" = some (some (.ref f0)))
    {od0 an0 : Option Addr} {sl0 : Array (Option Value)} {oc0 kV0 dc0 pm0 cd0 ct0 : Value}
    (l0 : K.lookup f0 = some ⟨oc0, od0, .func (PySem.W.fnOf "is_whole" "is_whole" (defArgs s_is_whole) (defBody s_is_whole) (defScope s_is_whole) .none kV0 dc0 pm0 an0 cd0 ct0), sl0⟩) (c0 : PySem.W.codeIn K cd0 "is_whole" = true) (k0 : PySem.W.keepIn K (.ref f0) = true)
    (a1 : PySem.W.nsIn K mainGlobals "is_name" = some (some (.ref f1)))
    {od1 an1 : Option Addr} {sl1 : Array (Option Value)} {oc1 kV1 dc1 pm1 cd1 ct1 : Value}
    (l1 : K.lookup f1 = some ⟨oc1, od1, .func (PySem.W.fnOf "is_name" "is_name" (defArgs s_is_name) (defBody s_is_name) (defScope s_is_name) .none kV1 dc1 pm1 an1 cd1 ct1), sl1⟩) (c1 : PySem.W.codeIn K cd1 "is_name" = true) (k1 : PySem.W.keepIn K (.ref f1) = true)
    (a2 : PySem.W.nsIn K mainGlobals "number_of" = some (some (.ref f2)))
    {od2 an2 : Option Addr} {sl2 : Array (Option Value)} {oc2 kV2 dc2 pm2 cd2 ct2 : Value}
    (l2 : K.lookup f2 = some ⟨oc2, od2, .func (PySem.W.fnOf "number_of" "number_of" (defArgs s_number_of) (defBody s_number_of) (defScope s_number_of) .none kV2 dc2 pm2 an2 cd2 ct2), sl2⟩) (c2 : PySem.W.codeIn K cd2 "number_of" = true) (k2 : PySem.W.keepIn K (.ref f2) = true)
    (a3 : PySem.W.nsIn K mainGlobals "words_of" = some (some (.ref f3)))
    {od3 an3 : Option Addr} {sl3 : Array (Option Value)} {oc3 kV3 dc3 pm3 cd3 ct3 : Value}
    (l3 : K.lookup f3 = some ⟨oc3, od3, .func (PySem.W.fnOf "words_of" "words_of" (defArgs s_words_of) (defBody s_words_of) (defScope s_words_of) .none kV3 dc3 pm3 an3 cd3 ct3), sl3⟩) (c3 : PySem.W.codeIn K cd3 "words_of" = true) (k3 : PySem.W.keepIn K (.ref f3) = true)
    (a4 : PySem.W.findIn K (.ref C_Sides) "__init__" = some (some (.ref f4))) (i4 : PySem.W.isFn K (.ref f4) = true)
    {od4 an4 : Option Addr} {sl4 : Array (Option Value)} {oc4 kV4 dc4 pm4 cd4 ct4 : Value}
    (l4 : K.lookup f4 = some ⟨oc4, od4, .func (PySem.W.fnOf "__init__" "Sides.__init__" (defArgs s_Sides___init__) (defBody s_Sides___init__) (defScope s_Sides___init__) .none kV4 dc4 pm4 an4 cd4 ct4), sl4⟩) (c4 : PySem.W.codeIn K cd4 "Sides.__init__" = true) (k4 : PySem.W.keepIn K (.ref f4) = true)
    (mk4 : PySem.W.makesIn K C_Sides = true) (kc4 : PySem.W.keepIn K (.ref C_Sides) = true)
    (a5 : PySem.W.findIn K (.ref C_Sides) "told" = some (some (.ref f5))) (i5 : PySem.W.isFn K (.ref f5) = true)
    {od5 an5 : Option Addr} {sl5 : Array (Option Value)} {oc5 kV5 dc5 pm5 cd5 ct5 : Value}
    (l5 : K.lookup f5 = some ⟨oc5, od5, .func (PySem.W.fnOf "told" "Sides.told" (defArgs s_Sides_told) (defBody s_Sides_told) (defScope s_Sides_told) .none kV5 dc5 pm5 an5 cd5 ct5), sl5⟩) (c5 : PySem.W.codeIn K cd5 "Sides.told" = true) (k5 : PySem.W.keepIn K (.ref f5) = true)
    (a6 : PySem.W.nsIn K mainGlobals "are_labels" = some (some (.ref f6)))
    {od6 an6 : Option Addr} {sl6 : Array (Option Value)} {oc6 kV6 dc6 pm6 cd6 ct6 : Value}
    (l6 : K.lookup f6 = some ⟨oc6, od6, .func (PySem.W.fnOf "are_labels" "are_labels" (defArgs s_are_labels) (defBody s_are_labels) (defScope s_are_labels) .none kV6 dc6 pm6 an6 cd6 ct6), sl6⟩) (c6 : PySem.W.codeIn K cd6 "are_labels" = true) (k6 : PySem.W.keepIn K (.ref f6) = true)
    (a7 : PySem.W.findIn K (.ref C_Parcel) "__init__" = some (some (.ref f7))) (i7 : PySem.W.isFn K (.ref f7) = true)
    {od7 an7 : Option Addr} {sl7 : Array (Option Value)} {oc7 kV7 dc7 pm7 cd7 ct7 : Value}
    (l7 : K.lookup f7 = some ⟨oc7, od7, .func (PySem.W.fnOf "__init__" "Parcel.__init__" (defArgs s_Parcel___init__) (defBody s_Parcel___init__) (defScope s_Parcel___init__) (.ref T7) kV7 dc7 pm7 an7 cd7 ct7), sl7⟩) (c7 : PySem.W.codeIn K cd7 "Parcel.__init__" = true) (k7 : PySem.W.keepIn K (.ref f7) = true)
    {dt7_0 : Tok}
    {dt7_1 : Tok}
    {dt7_2 : Tok}
    {dd7 : Option Addr} {dn7 : Nat} {ds7 : Array (Option Value)} {dc27 : Value} (t7 : K.lookup T7 = some ⟨dc27, dd7, .seq #[.int 1 dt7_0, .int 0 dt7_1, .int 0 dt7_2, .none] dn7, ds7⟩)
    (mk7 : PySem.W.makesIn K C_Parcel = true) (kc7 : PySem.W.keepIn K (.ref C_Parcel) = true)
    (a8 : PySem.W.findIn K (.ref C_Parcel) "name" = some (some (.ref f8))) (i8 : PySem.W.isFn K (.ref f8) = true)
    {od8 an8 : Option Addr} {sl8 : Array (Option Value)} {oc8 kV8 dc8 pm8 cd8 ct8 : Value}
    (l8 : K.lookup f8 = some ⟨oc8, od8, .func (PySem.W.fnOf "name" "Parcel.name" (defArgs s_Parcel_name) (defBody s_Parcel_name) (defScope s_Parcel_name) .none kV8 dc8 pm8 an8 cd8 ct8), sl8⟩) (c8 : PySem.W.codeIn K cd8 "Parcel.name" = true) (k8 : PySem.W.keepIn K (.ref f8) = true)
    (a9 : PySem.W.findIn K (.ref C_Parcel) "sides" = some (some (.ref f9))) (i9 : PySem.W.isFn K (.ref f9) = true)
    {od9 an9 : Option Addr} {sl9 : Array (Option Value)} {oc9 kV9 dc9 pm9 cd9 ct9 : Value}
    (l9 : K.lookup f9 = some ⟨oc9, od9, .func (PySem.W.fnOf "sides" "Parcel.sides" (defArgs s_Parcel_sides) (defBody s_Parcel_sides) (defScope s_Parcel_sides) .none kV9 dc9 pm9 an9 cd9 ct9), sl9⟩) (c9 : PySem.W.codeIn K cd9 "Parcel.sides" = true) (k9 : PySem.W.keepIn K (.ref f9) = true)
    (a10 : PySem.W.findIn K (.ref C_Parcel) "wall" = some (some (.ref f10))) (i10 : PySem.W.isFn K (.ref f10) = true)
    {od10 an10 : Option Addr} {sl10 : Array (Option Value)} {oc10 kV10 dc10 pm10 cd10 ct10 : Value}
    (l10 : K.lookup f10 = some ⟨oc10, od10, .func (PySem.W.fnOf "wall" "Parcel.wall" (defArgs s_Parcel_wall) (defBody s_Parcel_wall) (defScope s_Parcel_wall) .none kV10 dc10 pm10 an10 cd10 ct10), sl10⟩) (c10 : PySem.W.codeIn K cd10 "Parcel.wall" = true) (k10 : PySem.W.keepIn K (.ref f10) = true)
    (a11 : PySem.W.findIn K (.ref C_Parcel) "weight" = some (some (.ref f11))) (i11 : PySem.W.isFn K (.ref f11) = true)
    {od11 an11 : Option Addr} {sl11 : Array (Option Value)} {oc11 kV11 dc11 pm11 cd11 ct11 : Value}
    (l11 : K.lookup f11 = some ⟨oc11, od11, .func (PySem.W.fnOf "weight" "Parcel.weight" (defArgs s_Parcel_weight) (defBody s_Parcel_weight) (defScope s_Parcel_weight) .none kV11 dc11 pm11 an11 cd11 ct11), sl11⟩) (c11 : PySem.W.codeIn K cd11 "Parcel.weight" = true) (k11 : PySem.W.keepIn K (.ref f11) = true)
    (a12 : PySem.W.findIn K (.ref C_Parcel) "bears" = some (some (.ref f12))) (i12 : PySem.W.isFn K (.ref f12) = true)
    {od12 an12 : Option Addr} {sl12 : Array (Option Value)} {oc12 kV12 dc12 pm12 cd12 ct12 : Value}
    (l12 : K.lookup f12 = some ⟨oc12, od12, .func (PySem.W.fnOf "bears" "Parcel.bears" (defArgs s_Parcel_bears) (defBody s_Parcel_bears) (defScope s_Parcel_bears) .none kV12 dc12 pm12 an12 cd12 ct12), sl12⟩) (c12 : PySem.W.codeIn K cd12 "Parcel.bears" = true) (k12 : PySem.W.keepIn K (.ref f12) = true)
    (a13 : PySem.W.findIn K (.ref C_Parcel) "labels" = some (some (.ref f13))) (i13 : PySem.W.isFn K (.ref f13) = true)
    {od13 an13 : Option Addr} {sl13 : Array (Option Value)} {oc13 kV13 dc13 pm13 cd13 ct13 : Value}
    (l13 : K.lookup f13 = some ⟨oc13, od13, .func (PySem.W.fnOf "labels" "Parcel.labels" (defArgs s_Parcel_labels) (defBody s_Parcel_labels) (defScope s_Parcel_labels) .none kV13 dc13 pm13 an13 cd13 ct13), sl13⟩) (c13 : PySem.W.codeIn K cd13 "Parcel.labels" = true) (k13 : PySem.W.keepIn K (.ref f13) = true)
    (a14 : PySem.W.findIn K (.ref C_Heap) "__init__" = some (some (.ref f14))) (i14 : PySem.W.isFn K (.ref f14) = true)
    {od14 an14 : Option Addr} {sl14 : Array (Option Value)} {oc14 kV14 dc14 pm14 cd14 ct14 : Value}
    (l14 : K.lookup f14 = some ⟨oc14, od14, .func (PySem.W.fnOf "__init__" "Heap.__init__" (defArgs s_Heap___init__) (defBody s_Heap___init__) (defScope s_Heap___init__) .none kV14 dc14 pm14 an14 cd14 ct14), sl14⟩) (c14 : PySem.W.codeIn K cd14 "Heap.__init__" = true) (k14 : PySem.W.keepIn K (.ref f14) = true)
    (mk14 : PySem.W.makesIn K C_Heap = true) (kc14 : PySem.W.keepIn K (.ref C_Heap) = true)
    (a15 : PySem.W.findIn K (.ref C_Heap) "names" = some (some (.ref f15))) (i15 : PySem.W.isFn K (.ref f15) = true)
    {od15 an15 : Option Addr} {sl15 : Array (Option Value)} {oc15 kV15 dc15 pm15 cd15 ct15 : Value}
    (l15 : K.lookup f15 = some ⟨oc15, od15, .func (PySem.W.fnOf "names" "Heap.names" (defArgs s_Heap_names) (defBody s_Heap_names) (defScope s_Heap_names) .none kV15 dc15 pm15 an15 cd15 ct15), sl15⟩) (c15 : PySem.W.codeIn K cd15 "Heap.names" = true) (k15 : PySem.W.keepIn K (.ref f15) = true)
    (a16 : PySem.W.findIn K (.ref C_Heap) "put" = some (some (.ref f16))) (i16 : PySem.W.isFn K (.ref f16) = true)
    {od16 an16 : Option Addr} {sl16 : Array (Option Value)} {oc16 kV16 dc16 pm16 cd16 ct16 : Value}
    (l16 : K.lookup f16 = some ⟨oc16, od16, .func (PySem.W.fnOf "put" "Heap.put" (defArgs s_Heap_put) (defBody s_Heap_put) (defScope s_Heap_put) (.ref T16) kV16 dc16 pm16 an16 cd16 ct16), sl16⟩) (c16 : PySem.W.codeIn K cd16 "Heap.put" = true) (k16 : PySem.W.keepIn K (.ref f16) = true)
    {dd16 : Option Addr} {dn16 : Nat} {ds16 : Array (Option Value)} {dc216 : Value} (t16 : K.lookup T16 = some ⟨dc216, dd16, .seq #[.none] dn16, ds16⟩)
    (a17 : PySem.W.findIn K (.ref C_Heap) "parcels" = some (some (.ref f17))) (i17 : PySem.W.isFn K (.ref f17) = true)
    {od17 an17 : Option Addr} {sl17 : Array (Option Value)} {oc17 kV17 dc17 pm17 cd17 ct17 : Value}
    (l17 : K.lookup f17 = some ⟨oc17, od17, .func (PySem.W.fnOf "parcels" "Heap.parcels" (defArgs s_Heap_parcels) (defBody s_Heap_parcels) (defScope s_Heap_parcels) .none kV17 dc17 pm17 an17 cd17 ct17), sl17⟩) (c17 : PySem.W.codeIn K cd17 "Heap.parcels" = true) (k17 : PySem.W.keepIn K (.ref f17) = true)
    (a18 : PySem.W.nsIn K mainGlobals "is_unit" = some (some (.ref f18)))
    {od18 an18 : Option Addr} {sl18 : Array (Option Value)} {oc18 kV18 dc18 pm18 cd18 ct18 : Value}
    (l18 : K.lookup f18 = some ⟨oc18, od18, .func (PySem.W.fnOf "is_unit" "is_unit" (defArgs s_is_unit) (defBody s_is_unit) (defScope s_is_unit) .none kV18 dc18 pm18 an18 cd18 ct18), sl18⟩) (c18 : PySem.W.codeIn K cd18 "is_unit" = true) (k18 : PySem.W.keepIn K (.ref f18) = true)
    (a19 : PySem.W.nsIn K mainGlobals "are_units" = some (some (.ref f19)))
    {od19 an19 : Option Addr} {sl19 : Array (Option Value)} {oc19 kV19 dc19 pm19 cd19 ct19 : Value}
    (l19 : K.lookup f19 = some ⟨oc19, od19, .func (PySem.W.fnOf "are_units" "are_units" (defArgs s_are_units) (defBody s_are_units) (defScope s_are_units) .none kV19 dc19 pm19 an19 cd19 ct19), sl19⟩) (c19 : PySem.W.codeIn K cd19 "are_units" = true) (k19 : PySem.W.keepIn K (.ref f19) = true)
    (a20 : PySem.W.findIn K (.ref C_Measure) "__init__" = some (some (.ref f20))) (i20 : PySem.W.isFn K (.ref f20) = true)
    {od20 an20 : Option Addr} {sl20 : Array (Option Value)} {oc20 kV20 dc20 pm20 cd20 ct20 : Value}
    (l20 : K.lookup f20 = some ⟨oc20, od20, .func (PySem.W.fnOf "__init__" "Measure.__init__" (defArgs s_Measure___init__) (defBody s_Measure___init__) (defScope s_Measure___init__) .none kV20 dc20 pm20 an20 cd20 ct20), sl20⟩) (c20 : PySem.W.codeIn K cd20 "Measure.__init__" = true) (k20 : PySem.W.keepIn K (.ref f20) = true)
    (mk20 : PySem.W.makesIn K C_Measure = true) (kc20 : PySem.W.keepIn K (.ref C_Measure) = true)
    (a21 : PySem.W.findIn K (.ref C_Measure) "text" = some (some (.ref f21))) (i21 : PySem.W.isFn K (.ref f21) = true)
    {od21 an21 : Option Addr} {sl21 : Array (Option Value)} {oc21 kV21 dc21 pm21 cd21 ct21 : Value}
    (l21 : K.lookup f21 = some ⟨oc21, od21, .func (PySem.W.fnOf "text" "Measure.text" (defArgs s_Measure_text) (defBody s_Measure_text) (defScope s_Measure_text) .none kV21 dc21 pm21 an21 cd21 ct21), sl21⟩) (c21 : PySem.W.codeIn K cd21 "Measure.text" = true) (k21 : PySem.W.keepIn K (.ref f21) = true)
    (a22 : PySem.W.findIn K (.ref C_Measure) "sum_of" = some (some (.ref f22))) (i22 : PySem.W.isFn K (.ref f22) = true)
    {od22 an22 : Option Addr} {sl22 : Array (Option Value)} {oc22 kV22 dc22 pm22 cd22 ct22 : Value}
    (l22 : K.lookup f22 = some ⟨oc22, od22, .func (PySem.W.fnOf "sum_of" "Measure.sum_of" (defArgs s_Measure_sum_of) (defBody s_Measure_sum_of) (defScope s_Measure_sum_of) .none kV22 dc22 pm22 an22 cd22 ct22), sl22⟩) (c22 : PySem.W.codeIn K cd22 "Measure.sum_of" = true) (k22 : PySem.W.keepIn K (.ref f22) = true)
    (a23 : PySem.W.findIn K (.ref C_Measure) "points" = some (some (.ref f23))) (i23 : PySem.W.isFn K (.ref f23) = true)
    {od23 an23 : Option Addr} {sl23 : Array (Option Value)} {oc23 kV23 dc23 pm23 cd23 ct23 : Value}
    (l23 : K.lookup f23 = some ⟨oc23, od23, .func (PySem.W.fnOf "points" "Measure.points" (defArgs s_Measure_points) (defBody s_Measure_points) (defScope s_Measure_points) .none kV23 dc23 pm23 an23 cd23 ct23), sl23⟩) (c23 : PySem.W.codeIn K cd23 "Measure.points" = true) (k23 : PySem.W.keepIn K (.ref f23) = true)
    (a24 : PySem.W.nsIn K mainGlobals "need_measure" = some (some (.ref f24)))
    {od24 an24 : Option Addr} {sl24 : Array (Option Value)} {oc24 kV24 dc24 pm24 cd24 ct24 : Value}
    (l24 : K.lookup f24 = some ⟨oc24, od24, .func (PySem.W.fnOf "need_measure" "need_measure" (defArgs s_need_measure) (defBody s_need_measure) (defScope s_need_measure) .none kV24 dc24 pm24 an24 cd24 ct24), sl24⟩) (c24 : PySem.W.codeIn K cd24 "need_measure" = true) (k24 : PySem.W.keepIn K (.ref f24) = true)
    (a25 : PySem.W.nsIn K mainGlobals "front_words" = some (some (.ref f25)))
    {od25 an25 : Option Addr} {sl25 : Array (Option Value)} {oc25 kV25 dc25 pm25 cd25 ct25 : Value}
    (l25 : K.lookup f25 = some ⟨oc25, od25, .func (PySem.W.fnOf "front_words" "front_words" (defArgs s_front_words) (defBody s_front_words) (defScope s_front_words) .none kV25 dc25 pm25 an25 cd25 ct25), sl25⟩) (c25 : PySem.W.codeIn K cd25 "front_words" = true) (k25 : PySem.W.keepIn K (.ref f25) = true)
    (a26 : PySem.W.nsIn K mainGlobals "parcel_row" = some (some (.ref f26)))
    {od26 an26 : Option Addr} {sl26 : Array (Option Value)} {oc26 kV26 dc26 pm26 cd26 ct26 : Value}
    (l26 : K.lookup f26 = some ⟨oc26, od26, .func (PySem.W.fnOf "parcel_row" "parcel_row" (defArgs s_parcel_row) (defBody s_parcel_row) (defScope s_parcel_row) .none kV26 dc26 pm26 an26 cd26 ct26), sl26⟩) (c26 : PySem.W.codeIn K cd26 "parcel_row" = true) (k26 : PySem.W.keepIn K (.ref f26) = true)
    (a27 : PySem.W.nsIn K mainGlobals "show_heap" = some (some (.ref f27)))
    {od27 an27 : Option Addr} {sl27 : Array (Option Value)} {oc27 kV27 dc27 pm27 cd27 ct27 : Value}
    (l27 : K.lookup f27 = some ⟨oc27, od27, .func (PySem.W.fnOf "show_heap" "show_heap" (defArgs s_show_heap) (defBody s_show_heap) (defScope s_show_heap) .none kV27 dc27 pm27 an27 cd27 ct27), sl27⟩) (c27 : PySem.W.codeIn K cd27 "show_heap" = true) (k27 : PySem.W.keepIn K (.ref f27) = true)
    (a28 : PySem.W.nsIn K mainGlobals "parted" = some (some (.ref f28)))
    {od28 an28 : Option Addr} {sl28 : Array (Option Value)} {oc28 kV28 dc28 pm28 cd28 ct28 : Value}
    (l28 : K.lookup f28 = some ⟨oc28, od28, .func (PySem.W.fnOf "parted" "parted" (defArgs s_parted) (defBody s_parted) (defScope s_parted) .none kV28 dc28 pm28 an28 cd28 ct28), sl28⟩) (c28 : PySem.W.codeIn K cd28 "parted" = true) (k28 : PySem.W.keepIn K (.ref f28) = true)
    (a29 : PySem.W.nsIn K mainGlobals "size_of" = some (some (.ref f29)))
    {od29 an29 : Option Addr} {sl29 : Array (Option Value)} {oc29 kV29 dc29 pm29 cd29 ct29 : Value}
    (l29 : K.lookup f29 = some ⟨oc29, od29, .func (PySem.W.fnOf "size_of" "size_of" (defArgs s_size_of) (defBody s_size_of) (defScope s_size_of) .none kV29 dc29 pm29 an29 cd29 ct29), sl29⟩) (c29 : PySem.W.codeIn K cd29 "size_of" = true) (k29 : PySem.W.keepIn K (.ref f29) = true)
    (a30 : PySem.W.nsIn K mainGlobals "front_of" = some (some (.ref f30)))
    {od30 an30 : Option Addr} {sl30 : Array (Option Value)} {oc30 kV30 dc30 pm30 cd30 ct30 : Value}
    (l30 : K.lookup f30 = some ⟨oc30, od30, .func (PySem.W.fnOf "front_of" "front_of" (defArgs s_front_of) (defBody s_front_of) (defScope s_front_of) .none kV30 dc30 pm30 an30 cd30 ct30), sl30⟩) (c30 : PySem.W.codeIn K cd30 "front_of" = true) (k30 : PySem.W.keepIn K (.ref f30) = true)
    (a31 : PySem.W.nsIn K mainGlobals "back_of" = some (some (.ref f31)))
    {od31 an31 : Option Addr} {sl31 : Array (Option Value)} {oc31 kV31 dc31 pm31 cd31 ct31 : Value}
    (l31 : K.lookup f31 = some ⟨oc31, od31, .func (PySem.W.fnOf "back_of" "back_of" (defArgs s_back_of) (defBody s_back_of) (defScope s_back_of) .none kV31 dc31 pm31 an31 cd31 ct31), sl31⟩) (c31 : PySem.W.codeIn K cd31 "back_of" = true) (k31 : PySem.W.keepIn K (.ref f31) = true)
    (a32 : PySem.W.nsIn K mainGlobals "parcel_told" = some (some (.ref f32)))
    {od32 an32 : Option Addr} {sl32 : Array (Option Value)} {oc32 kV32 dc32 pm32 cd32 ct32 : Value}
    (l32 : K.lookup f32 = some ⟨oc32, od32, .func (PySem.W.fnOf "parcel_told" "parcel_told" (defArgs s_parcel_told) (defBody s_parcel_told) (defScope s_parcel_told) .none kV32 dc32 pm32 an32 cd32 ct32), sl32⟩) (c32 : PySem.W.codeIn K cd32 "parcel_told" = true) (k32 : PySem.W.keepIn K (.ref f32) = true)
    (a33 : PySem.W.nsIn K mainGlobals "parcel_of" = some (some (.ref f33)))
    {od33 an33 : Option Addr} {sl33 : Array (Option Value)} {oc33 kV33 dc33 pm33 cd33 ct33 : Value}
    (l33 : K.lookup f33 = some ⟨oc33, od33, .func (PySem.W.fnOf "parcel_of" "parcel_of" (defArgs s_parcel_of) (defBody s_parcel_of) (defScope s_parcel_of) .none kV33 dc33 pm33 an33 cd33 ct33), sl33⟩) (c33 : PySem.W.codeIn K cd33 "parcel_of" = true) (k33 : PySem.W.keepIn K (.ref f33) = true)
    (a34 : PySem.W.nsIn K mainGlobals "read_heap" = some (some (.ref f34)))
    {od34 an34 : Option Addr} {sl34 : Array (Option Value)} {oc34 kV34 dc34 pm34 cd34 ct34 : Value}
    (l34 : K.lookup f34 = some ⟨oc34, od34, .func (PySem.W.fnOf "read_heap" "read_heap" (defArgs s_read_heap) (defBody s_read_heap) (defScope s_read_heap) .none kV34 dc34 pm34 an34 cd34 ct34), sl34⟩) (c34 : PySem.W.codeIn K cd34 "read_heap" = true) (k34 : PySem.W.keepIn K (.ref f34) = true)
    (a35 : PySem.W.nsIn K mainGlobals "heap_retold" = some (some (.ref f35)))
    {od35 an35 : Option Addr} {sl35 : Array (Option Value)} {oc35 kV35 dc35 pm35 cd35 ct35 : Value}
    (l35 : K.lookup f35 = some ⟨oc35, od35, .func (PySem.W.fnOf "heap_retold" "heap_retold" (defArgs s_heap_retold) (defBody s_heap_retold) (defScope s_heap_retold) .none kV35 dc35 pm35 an35 cd35 ct35), sl35⟩) (c35 : PySem.W.codeIn K cd35 "heap_retold" = true) (k35 : PySem.W.keepIn K (.ref f35) = true)
    (a36 : PySem.W.nsIn K mainGlobals "is_order" = some (some (.ref f36)))
    {od36 an36 : Option Addr} {sl36 : Array (Option Value)} {oc36 kV36 dc36 pm36 cd36 ct36 : Value}
    (l36 : K.lookup f36 = some ⟨oc36, od36, .func (PySem.W.fnOf "is_order" "is_order" (defArgs s_is_order) (defBody s_is_order) (defScope s_is_order) .none kV36 dc36 pm36 an36 cd36 ct36), sl36⟩) (c36 : PySem.W.codeIn K cd36 "is_order" = true) (k36 : PySem.W.keepIn K (.ref f36) = true)
    (a37 : PySem.W.findIn K (.ref C_Sides) "turned" = some (some (.ref f37))) (i37 : PySem.W.isFn K (.ref f37) = true)
    {od37 an37 : Option Addr} {sl37 : Array (Option Value)} {oc37 kV37 dc37 pm37 cd37 ct37 : Value}
    (l37 : K.lookup f37 = some ⟨oc37, od37, .func (PySem.W.fnOf "turned" "Sides.turned" (defArgs s_Sides_turned) (defBody s_Sides_turned) (defScope s_Sides_turned) .none kV37 dc37 pm37 an37 cd37 ct37), sl37⟩) (c37 : PySem.W.codeIn K cd37 "Sides.turned" = true) (k37 : PySem.W.keepIn K (.ref f37) = true)
    (a38 : PySem.W.findIn K (.ref C_Sides) "orders_to" = some (some (.ref f38))) (i38 : PySem.W.isFn K (.ref f38) = true)
    {od38 an38 : Option Addr} {sl38 : Array (Option Value)} {oc38 kV38 dc38 pm38 cd38 ct38 : Value}
    (l38 : K.lookup f38 = some ⟨oc38, od38, .func (PySem.W.fnOf "orders_to" "Sides.orders_to" (defArgs s_Sides_orders_to) (defBody s_Sides_orders_to) (defScope s_Sides_orders_to) .none kV38 dc38 pm38 an38 cd38 ct38), sl38⟩) (c38 : PySem.W.codeIn K cd38 "Sides.orders_to" = true) (k38 : PySem.W.keepIn K (.ref f38) = true)
    (a39 : PySem.W.findIn K (.ref C_Parcel) "numbers" = some (some (.ref f39))) (i39 : PySem.W.isFn K (.ref f39) = true)
    {od39 an39 : Option Addr} {sl39 : Array (Option Value)} {oc39 kV39 dc39 pm39 cd39 ct39 : Value}
    (l39 : K.lookup f39 = some ⟨oc39, od39, .func (PySem.W.fnOf "numbers" "Parcel.numbers" (defArgs s_Parcel_numbers) (defBody s_Parcel_numbers) (defScope s_Parcel_numbers) .none kV39 dc39 pm39 an39 cd39 ct39), sl39⟩) (c39 : PySem.W.codeIn K cd39 "Parcel.numbers" = true) (k39 : PySem.W.keepIn K (.ref f39) = true)
    (a40 : PySem.W.findIn K (.ref C_Parcel) "kind" = some (some (.ref f40))) (i40 : PySem.W.isFn K (.ref f40) = true)
    {od40 an40 : Option Addr} {sl40 : Array (Option Value)} {oc40 kV40 dc40 pm40 cd40 ct40 : Value}
    (l40 : K.lookup f40 = some ⟨oc40, od40, .func (PySem.W.fnOf "kind" "Parcel.kind" (defArgs s_Parcel_kind) (defBody s_Parcel_kind) (defScope s_Parcel_kind) .none kV40 dc40 pm40 an40 cd40 ct40), sl40⟩) (c40 : PySem.W.codeIn K cd40 "Parcel.kind" = true) (k40 : PySem.W.keepIn K (.ref f40) = true)
    (a41 : PySem.W.findIn K (.ref C_Parcel) "lies_like" = some (some (.ref f41))) (i41 : PySem.W.isFn K (.ref f41) = true)
    {od41 an41 : Option Addr} {sl41 : Array (Option Value)} {oc41 kV41 dc41 pm41 cd41 ct41 : Value}
    (l41 : K.lookup f41 = some ⟨oc41, od41, .func (PySem.W.fnOf "lies_like" "Parcel.lies_like" (defArgs s_Parcel_lies_like) (defBody s_Parcel_lies_like) (defScope s_Parcel_lies_like) .none kV41 dc41 pm41 an41 cd41 ct41), sl41⟩) (c41 : PySem.W.codeIn K cd41 "Parcel.lies_like" = true) (k41 : PySem.W.keepIn K (.ref f41) = true)
    (a42 : PySem.W.findIn K (.ref C_Parcel) "__eq__" = some (some (.ref f42))) (i42 : PySem.W.isFn K (.ref f42) = true)
    {od42 an42 : Option Addr} {sl42 : Array (Option Value)} {oc42 kV42 dc42 pm42 cd42 ct42 : Value}
    (l42 : K.lookup f42 = some ⟨oc42, od42, .func (PySem.W.fnOf "__eq__" "Parcel.__eq__" (defArgs s_Parcel___eq__) (defBody s_Parcel___eq__) (defScope s_Parcel___eq__) .none kV42 dc42 pm42 an42 cd42 ct42), sl42⟩) (c42 : PySem.W.codeIn K cd42 "Parcel.__eq__" = true) (k42 : PySem.W.keepIn K (.ref f42) = true)
    (a43 : PySem.W.findIn K (.ref C_Heap) "__len__" = some (some (.ref f43))) (i43 : PySem.W.isFn K (.ref f43) = true)
    {od43 an43 : Option Addr} {sl43 : Array (Option Value)} {oc43 kV43 dc43 pm43 cd43 ct43 : Value}
    (l43 : K.lookup f43 = some ⟨oc43, od43, .func (PySem.W.fnOf "__len__" "Heap.__len__" (defArgs s_Heap___len__) (defBody s_Heap___len__) (defScope s_Heap___len__) .none kV43 dc43 pm43 an43 cd43 ct43), sl43⟩) (c43 : PySem.W.codeIn K cd43 "Heap.__len__" = true) (k43 : PySem.W.keepIn K (.ref f43) = true)
    (a44 : PySem.W.findIn K (.ref C_Heap) "__eq__" = some (some (.ref f44))) (i44 : PySem.W.isFn K (.ref f44) = true)
    {od44 an44 : Option Addr} {sl44 : Array (Option Value)} {oc44 kV44 dc44 pm44 cd44 ct44 : Value}
    (l44 : K.lookup f44 = some ⟨oc44, od44, .func (PySem.W.fnOf "__eq__" "Heap.__eq__" (defArgs s_Heap___eq__) (defBody s_Heap___eq__) (defScope s_Heap___eq__) .none kV44 dc44 pm44 an44 cd44 ct44), sl44⟩) (c44 : PySem.W.codeIn K cd44 "Heap.__eq__" = true) (k44 : PySem.W.keepIn K (.ref f44) = true)
    (a45 : PySem.W.nsIn K mainGlobals "_law_cell" = some (some (.ref f45)))
    {od45 an45 : Option Addr} {sl45 : Array (Option Value)} {oc45 kV45 dc45 pm45 cd45 ct45 : Value}
    (l45 : K.lookup f45 = some ⟨oc45, od45, .func (PySem.W.fnOf "_law_cell" "_law_cell" (defArgs s__law_cell) (defBody s__law_cell) (defScope s__law_cell) .none kV45 dc45 pm45 an45 cd45 ct45), sl45⟩) (c45 : PySem.W.codeIn K cd45 "_law_cell" = true) (k45 : PySem.W.keepIn K (.ref f45) = true)
    (a46 : PySem.W.nsIn K mainGlobals "_law_purse" = some (some (.ref f46)))
    {od46 an46 : Option Addr} {sl46 : Array (Option Value)} {oc46 kV46 dc46 pm46 cd46 ct46 : Value}
    (l46 : K.lookup f46 = some ⟨oc46, od46, .func (PySem.W.fnOf "_law_purse" "_law_purse" (defArgs s__law_purse) (defBody s__law_purse) (defScope s__law_purse) .none kV46 dc46 pm46 an46 cd46 ct46), sl46⟩) (c46 : PySem.W.codeIn K cd46 "_law_purse" = true) (k46 : PySem.W.keepIn K (.ref f46) = true)
    (a47 : PySem.W.nsIn K mainGlobals "_law_take" = some (some (.ref f47)))
    {od47 an47 : Option Addr} {sl47 : Array (Option Value)} {oc47 kV47 dc47 pm47 cd47 ct47 : Value}
    (l47 : K.lookup f47 = some ⟨oc47, od47, .func (PySem.W.fnOf "_law_take" "_law_take" (defArgs s__law_take) (defBody s__law_take) (defScope s__law_take) .none kV47 dc47 pm47 an47 cd47 ct47), sl47⟩) (c47 : PySem.W.codeIn K cd47 "_law_take" = true) (k47 : PySem.W.keepIn K (.ref f47) = true)
    (a48 : PySem.W.nsIn K mainGlobals "_law_names" = some (some (.ref f48)))
    {od48 an48 : Option Addr} {sl48 : Array (Option Value)} {oc48 kV48 dc48 pm48 cd48 ct48 : Value}
    (l48 : K.lookup f48 = some ⟨oc48, od48, .func (PySem.W.fnOf "_law_names" "_law_names" (defArgs s__law_names) (defBody s__law_names) (defScope s__law_names) .none kV48 dc48 pm48 an48 cd48 ct48), sl48⟩) (c48 : PySem.W.codeIn K cd48 "_law_names" = true) (k48 : PySem.W.keepIn K (.ref f48) = true)
    (a49 : PySem.W.nsIn K mainGlobals "_law_three" = some (some (.ref f49)))
    {od49 an49 : Option Addr} {sl49 : Array (Option Value)} {oc49 kV49 dc49 pm49 cd49 ct49 : Value}
    (l49 : K.lookup f49 = some ⟨oc49, od49, .func (PySem.W.fnOf "_law_three" "_law_three" (defArgs s__law_three) (defBody s__law_three) (defScope s__law_three) .none kV49 dc49 pm49 an49 cd49 ct49), sl49⟩) (c49 : PySem.W.codeIn K cd49 "_law_three" = true) (k49 : PySem.W.keepIn K (.ref f49) = true)
    (a50 : PySem.W.nsIn K mainGlobals "_law_units" = some (some (.ref f50)))
    {od50 an50 : Option Addr} {sl50 : Array (Option Value)} {oc50 kV50 dc50 pm50 cd50 ct50 : Value}
    (l50 : K.lookup f50 = some ⟨oc50, od50, .func (PySem.W.fnOf "_law_units" "_law_units" (defArgs s__law_units) (defBody s__law_units) (defScope s__law_units) .none kV50 dc50 pm50 an50 cd50 ct50), sl50⟩) (c50 : PySem.W.codeIn K cd50 "_law_units" = true) (k50 : PySem.W.keepIn K (.ref f50) = true)
    (a51 : PySem.W.nsIn K mainGlobals "_law_size" = some (some (.ref f51)))
    {od51 an51 : Option Addr} {sl51 : Array (Option Value)} {oc51 kV51 dc51 pm51 cd51 ct51 : Value}
    (l51 : K.lookup f51 = some ⟨oc51, od51, .func (PySem.W.fnOf "_law_size" "_law_size" (defArgs s__law_size) (defBody s__law_size) (defScope s__law_size) .none kV51 dc51 pm51 an51 cd51 ct51), sl51⟩) (c51 : PySem.W.codeIn K cd51 "_law_size" = true) (k51 : PySem.W.keepIn K (.ref f51) = true)
    (a52 : PySem.W.nsIn K mainGlobals "_law_loose" = some (some (.ref f52)))
    {od52 an52 : Option Addr} {sl52 : Array (Option Value)} {oc52 kV52 dc52 pm52 cd52 ct52 : Value}
    (l52 : K.lookup f52 = some ⟨oc52, od52, .func (PySem.W.fnOf "_law_loose" "_law_loose" (defArgs s__law_loose) (defBody s__law_loose) (defScope s__law_loose) .none kV52 dc52 pm52 an52 cd52 ct52), sl52⟩) (c52 : PySem.W.codeIn K cd52 "_law_loose" = true) (k52 : PySem.W.keepIn K (.ref f52) = true)
    (a53 : PySem.W.nsIn K mainGlobals "_law_row" = some (some (.ref f53)))
    {od53 an53 : Option Addr} {sl53 : Array (Option Value)} {oc53 kV53 dc53 pm53 cd53 ct53 : Value}
    (l53 : K.lookup f53 = some ⟨oc53, od53, .func (PySem.W.fnOf "_law_row" "_law_row" (defArgs s__law_row) (defBody s__law_row) (defScope s__law_row) .none kV53 dc53 pm53 an53 cd53 ct53), sl53⟩) (c53 : PySem.W.codeIn K cd53 "_law_row" = true) (k53 : PySem.W.keepIn K (.ref f53) = true)
    (a54 : PySem.W.nsIn K mainGlobals "_law_parcel" = some (some (.ref f54)))
    {od54 an54 : Option Addr} {sl54 : Array (Option Value)} {oc54 kV54 dc54 pm54 cd54 ct54 : Value}
    (l54 : K.lookup f54 = some ⟨oc54, od54, .func (PySem.W.fnOf "_law_parcel" "_law_parcel" (defArgs s__law_parcel) (defBody s__law_parcel) (defScope s__law_parcel) .none kV54 dc54 pm54 an54 cd54 ct54), sl54⟩) (c54 : PySem.W.codeIn K cd54 "_law_parcel" = true) (k54 : PySem.W.keepIn K (.ref f54) = true)
    (a55 : PySem.W.nsIn K mainGlobals "_law_heap" = some (some (.ref f55)))
    {od55 an55 : Option Addr} {sl55 : Array (Option Value)} {oc55 kV55 dc55 pm55 cd55 ct55 : Value}
    (l55 : K.lookup f55 = some ⟨oc55, od55, .func (PySem.W.fnOf "_law_heap" "_law_heap" (defArgs s__law_heap) (defBody s__law_heap) (defScope s__law_heap) .none kV55 dc55 pm55 an55 cd55 ct55), sl55⟩) (c55 : PySem.W.codeIn K cd55 "_law_heap" = true) (k55 : PySem.W.keepIn K (.ref f55) = true)
    (a56 : PySem.W.nsIn K mainGlobals "_law_written" = some (some (.ref f56)))
    {od56 an56 : Option Addr} {sl56 : Array (Option Value)} {oc56 kV56 dc56 pm56 cd56 ct56 : Value}
    (l56 : K.lookup f56 = some ⟨oc56, od56, .func (PySem.W.fnOf "_law_written" "_law_written" (defArgs s__law_written) (defBody s__law_written) (defScope s__law_written) .none kV56 dc56 pm56 an56 cd56 ct56), sl56⟩) (c56 : PySem.W.codeIn K cd56 "_law_written" = true) (k56 : PySem.W.keepIn K (.ref f56) = true)
    (a57 : PySem.W.nsIn K mainGlobals "_law_loose_text" = some (some (.ref f57)))
    {od57 an57 : Option Addr} {sl57 : Array (Option Value)} {oc57 kV57 dc57 pm57 cd57 ct57 : Value}
    (l57 : K.lookup f57 = some ⟨oc57, od57, .func (PySem.W.fnOf "_law_loose_text" "_law_loose_text" (defArgs s__law_loose_text) (defBody s__law_loose_text) (defScope s__law_loose_text) .none kV57 dc57 pm57 an57 cd57 ct57), sl57⟩) (c57 : PySem.W.codeIn K cd57 "_law_loose_text" = true) (k57 : PySem.W.keepIn K (.ref f57) = true)
    (a58 : PySem.W.nsIn K mainGlobals "_law_is_heap" = some (some (.ref f58)))
    {od58 an58 : Option Addr} {sl58 : Array (Option Value)} {oc58 kV58 dc58 pm58 cd58 ct58 : Value}
    (l58 : K.lookup f58 = some ⟨oc58, od58, .func (PySem.W.fnOf "_law_is_heap" "_law_is_heap" (defArgs s__law_is_heap) (defBody s__law_is_heap) (defScope s__law_is_heap) .none kV58 dc58 pm58 an58 cd58 ct58), sl58⟩) (c58 : PySem.W.codeIn K cd58 "_law_is_heap" = true) (k58 : PySem.W.keepIn K (.ref f58) = true)
    (a59 : PySem.W.nsIn K mainGlobals "_law_other_units" = some (some (.ref f59)))
    {od59 an59 : Option Addr} {sl59 : Array (Option Value)} {oc59 kV59 dc59 pm59 cd59 ct59 : Value}
    (l59 : K.lookup f59 = some ⟨oc59, od59, .func (PySem.W.fnOf "_law_other_units" "_law_other_units" (defArgs s__law_other_units) (defBody s__law_other_units) (defScope s__law_other_units) .none kV59 dc59 pm59 an59 cd59 ct59), sl59⟩) (c59 : PySem.W.codeIn K cd59 "_law_other_units" = true) (k59 : PySem.W.keepIn K (.ref f59) = true)
    (a60 : PySem.W.nsIn K mainGlobals "law" = some (some (.ref f60)))
    {od60 an60 : Option Addr} {sl60 : Array (Option Value)} {oc60 kV60 dc60 pm60 cd60 ct60 : Value}
    (l60 : K.lookup f60 = some ⟨oc60, od60, .func (PySem.W.fnOf "law" "law" (defArgs s_law) (defBody s_law) (defScope s_law) .none kV60 dc60 pm60 an60 cd60 ct60), sl60⟩) (c60 : PySem.W.codeIn K cd60 "law" = true) (k60 : PySem.W.keepIn K (.ref f60) = true)
    (z_all : PySem.W.nsIn K mainGlobals "all" = some none)
    (z_any : PySem.W.nsIn K mainGlobals "any" = some none)
    (z_bool : PySem.W.nsIn K mainGlobals "bool" = some none)
    (z_divmod : PySem.W.nsIn K mainGlobals "divmod" = some none)
    (z_int : PySem.W.nsIn K mainGlobals "int" = some none)
    (z_isinstance : PySem.W.nsIn K mainGlobals "isinstance" = some none)
    (z_len : PySem.W.nsIn K mainGlobals "len" = some none)
    (z_list : PySem.W.nsIn K mainGlobals "list" = some none)
    (z_max : PySem.W.nsIn K mainGlobals "max" = some none)
    (z_min : PySem.W.nsIn K mainGlobals "min" = some none)
    (z_range : PySem.W.nsIn K mainGlobals "range" = some none)
    (z_repr : PySem.W.nsIn K mainGlobals "repr" = some none)
    (z_reversed : PySem.W.nsIn K mainGlobals "reversed" = some none)
    (z_set : PySem.W.nsIn K mainGlobals "set" = some none)
    (z_str : PySem.W.nsIn K mainGlobals "str" = some none)
    (z_tuple : PySem.W.nsIn K mainGlobals "tuple" = some none)
    (z_zip : PySem.W.nsIn K mainGlobals "zip" = some none)
    {t_FIGURES : Tok} (z_FIGURES : PySem.W.nsIn K mainGlobals "FIGURES" = some (some (.str "0123456789" t_FIGURES)))
    {t_LETTERS : Tok} (z_LETTERS : PySem.W.nsIn K mainGlobals "LETTERS" = some (some (.str "abcdefghijklmnopqrstuvwxyz" t_LETTERS)))
    {t_MOST_PARCELS : Tok} (z_MOST_PARCELS : PySem.W.nsIn K mainGlobals "MOST_PARCELS" = some (some (.int 12 t_MOST_PARCELS)))
    {t_MOST_POINTS : Tok} (z_MOST_POINTS : PySem.W.nsIn K mainGlobals "MOST_POINTS" = some (some (.int 100000 t_MOST_POINTS)))
    {t_MOST_SIDE : Tok} (z_MOST_SIDE : PySem.W.nsIn K mainGlobals "MOST_SIDE" = some (some (.int 100000 t_MOST_SIDE)))
    {t_MOST_SIZE : Tok} (z_MOST_SIZE : PySem.W.nsIn K mainGlobals "MOST_SIZE" = some (some (.int 1000000 t_MOST_SIZE)))
    {t_MOST_WALL : Tok} (z_MOST_WALL : PySem.W.nsIn K mainGlobals "MOST_WALL" = some (some (.int 1000 t_MOST_WALL)))
    {t_MOST_WEIGHT : Tok} (z_MOST_WEIGHT : PySem.W.nsIn K mainGlobals "MOST_WEIGHT" = some (some (.int 100000 t_MOST_WEIGHT)))
    (icNoSize : PySem.W.isClsIn K C_NoSize = true)
    (sbNoSize_NoSize : PySem.W.subIn K (.ref C_NoSize) (.ref C_NoSize) = some true)
    {aM_ : Addr} {dM_ : Option Addr} {nM_ : Nat} {sM_ : Array (Option Value)} {tM0_ tM1_ tM2_ tM3_ tM4_ tM5_ tM6_ tM7_ tM8_ : Tok} (z_KEPT : PySem.W.nsIn K mainGlobals "KEPT" = some (some (.ref aM_)))
    (kM_ : K.lookup aM_ = some ⟨.type "tuple", dM_, .seq #[.str "rest" tM0_, .str "none" tM1_, .str "any" tM2_, .str "x" tM3_, .str "wall" tM4_, .str "weight" tM5_, .str "bears" tM6_, .str "label" tM7_, .str "price" tM8_] nM_, sM_⟩)
    {aL_ : Addr} {dL_ : Option Addr} {nL_ : Nat} {sL_ : Array (Option Value)} {xL_ yL_ wL_ : Tok} (z_LABELS : PySem.W.nsIn K mainGlobals "LABELS" = some (some (.ref aL_)))
    (kL_ : K.lookup aL_ = some ⟨.type "tuple", dL_, .seq #[.str "alone" xL_, .str "top" yL_, .str "upright" wL_] nL_, sL_⟩)
    {aR_ : Addr} {dR_ : Option Addr} {nR_ : Nat} {sR_ : Array (Option Value)} {tR0_ tR1_ tR2_ tR3_ : Tok} (z_MARKS : PySem.W.nsIn K mainGlobals "MARKS" = some (some (.ref aR_)))
    (kR_ : K.lookup aR_ = some ⟨.type "tuple", dR_, .seq #[.str "x" tR0_, .str "x" tR1_, .str "wall" tR2_, .str "weight" tR3_] nR_, sR_⟩)
    {aO t0_ t1_ t2_ t3_ t4_ t5_ : Addr} {dO : Option Addr} {nO : Nat} {sO : Array (Option Value)} (z_ORDERS : PySem.W.nsIn K mainGlobals "ORDERS" = some (some (.ref aO)))
    (kO : K.lookup aO = some ⟨.type "tuple", dO, .seq #[.ref t0_, .ref t1_, .ref t2_, .ref t3_, .ref t4_, .ref t5_] nO, sO⟩)
    {e0_ : Option Addr} {m0_ : Nat} {r0_ : Array (Option Value)} {x0_ y0_ w0_ : Tok} (kt0_ : K.lookup t0_ = some ⟨.type "tuple", e0_, .seq #[.int 0 x0_, .int 1 y0_, .int 2 w0_] m0_, r0_⟩)
    {e1_ : Option Addr} {m1_ : Nat} {r1_ : Array (Option Value)} {x1_ y1_ w1_ : Tok} (kt1_ : K.lookup t1_ = some ⟨.type "tuple", e1_, .seq #[.int 0 x1_, .int 2 y1_, .int 1 w1_] m1_, r1_⟩)
    {e2_ : Option Addr} {m2_ : Nat} {r2_ : Array (Option Value)} {x2_ y2_ w2_ : Tok} (kt2_ : K.lookup t2_ = some ⟨.type "tuple", e2_, .seq #[.int 1 x2_, .int 0 y2_, .int 2 w2_] m2_, r2_⟩)
    {e3_ : Option Addr} {m3_ : Nat} {r3_ : Array (Option Value)} {x3_ y3_ w3_ : Tok} (kt3_ : K.lookup t3_ = some ⟨.type "tuple", e3_, .seq #[.int 1 x3_, .int 2 y3_, .int 0 w3_] m3_, r3_⟩)
    {e4_ : Option Addr} {m4_ : Nat} {r4_ : Array (Option Value)} {x4_ y4_ w4_ : Tok} (kt4_ : K.lookup t4_ = some ⟨.type "tuple", e4_, .seq #[.int 2 x4_, .int 0 y4_, .int 1 w4_] m4_, r4_⟩)
    {e5_ : Option Addr} {m5_ : Nat} {r5_ : Array (Option Value)} {x5_ y5_ w5_ : Tok} (kt5_ : K.lookup t5_ = some ⟨.type "tuple", e5_, .seq #[.int 2 x5_, .int 1 y5_, .int 0 w5_] m5_, r5_⟩)
    : ∃ fd : FuncData, (∀ (s : Shared) (u : Value), BindsTo s fd ⟨[u], []⟩ [("_law_script", u)]) ∧ ∀ base : Heap, K.In base → base.Ns mainGlobals mg → VS.SysOk base → VS.FnG l.prog w K mg base (L2.CX l.prog w) 15 fa fd ["_law_script"] (VS.spOf K p_law) := by
  have e := hfa.symm.trans (PySem.W.mg_of X G a60)
  cases e
  have T : Tx K mg := ⟨PySem.W.mg_none_of X G z_all, PySem.W.mg_none_of X G z_any, PySem.W.mg_none_of X G z_bool, PySem.W.mg_none_of X G z_divmod, PySem.W.mg_none_of X G z_int, PySem.W.mg_none_of X G z_isinstance, PySem.W.mg_none_of X G z_len, PySem.W.mg_none_of X G z_list, PySem.W.mg_none_of X G z_max, PySem.W.mg_none_of X G z_min, PySem.W.mg_none_of X G z_range, PySem.W.mg_none_of X G z_repr, PySem.W.mg_none_of X G z_reversed, PySem.W.mg_none_of X G z_set, PySem.W.mg_none_of X G z_str, PySem.W.mg_none_of X G z_tuple, PySem.W.mg_none_of X G z_zip, ⟨_, PySem.W.mg_of X G z_FIGURES, _, rfl⟩, ⟨_, PySem.W.mg_of X G z_LETTERS, _, rfl⟩, ⟨_, PySem.W.mg_of X G z_MOST_PARCELS, _, rfl⟩, ⟨_, PySem.W.mg_of X G z_MOST_POINTS, _, rfl⟩, ⟨_, PySem.W.mg_of X G z_MOST_SIDE, _, rfl⟩, ⟨_, PySem.W.mg_of X G z_MOST_SIZE, _, rfl⟩, ⟨_, PySem.W.mg_of X G z_MOST_WALL, _, rfl⟩, ⟨_, PySem.W.mg_of X G z_MOST_WEIGHT, _, rfl⟩, ⟨aM_, ⟨_, PySem.W.mg_of X G z_KEPT, rfl⟩, fun H S => .tupK ⟨_, _, _, kM_, rfl, rfl, (by show 9 ≤ sizeLine; decide), (.cons (show RelV (.str "rest") (.str "rest" tM0_) from ⟨_, rfl⟩) (.cons (show RelV (.str "none") (.str "none" tM1_) from ⟨_, rfl⟩) (.cons (show RelV (.str "any") (.str "any" tM2_) from ⟨_, rfl⟩) (.cons (show RelV (.str "x") (.str "x" tM3_) from ⟨_, rfl⟩) (.cons (show RelV (.str "wall") (.str "wall" tM4_) from ⟨_, rfl⟩) (.cons (show RelV (.str "weight") (.str "weight" tM5_) from ⟨_, rfl⟩) (.cons (show RelV (.str "bears") (.str "bears" tM6_) from ⟨_, rfl⟩) (.cons (show RelV (.str "label") (.str "label" tM7_) from ⟨_, rfl⟩) (.cons (show RelV (.str "price") (.str "price" tM8_) from ⟨_, rfl⟩) .nil)))))))))⟩ (.cons (.str _) (.cons (.str _) (.cons (.str _) (.cons (.str _) (.cons (.str _) (.cons (.str _) (.cons (.str _) (.cons (.str _) (.cons (.str _) .nil)))))))))⟩, ⟨aL_, ⟨_, PySem.W.mg_of X G z_LABELS, rfl⟩, fun H S => .tupK ⟨_, _, _, kL_, rfl, rfl, (by show 3 ≤ sizeLine; decide), (.cons (show RelV (.str "alone") (.str "alone" xL_) from ⟨_, rfl⟩) (.cons (show RelV (.str "top") (.str "top" yL_) from ⟨_, rfl⟩) (.cons (show RelV (.str "upright") (.str "upright" wL_) from ⟨_, rfl⟩) .nil)))⟩ (.cons (.str _) (.cons (.str _) (.cons (.str _) .nil)))⟩, ⟨aR_, ⟨_, PySem.W.mg_of X G z_MARKS, rfl⟩, fun H S => .tupK ⟨_, _, _, kR_, rfl, rfl, (by show 4 ≤ sizeLine; decide), (.cons (show RelV (.str "x") (.str "x" tR0_) from ⟨_, rfl⟩) (.cons (show RelV (.str "x") (.str "x" tR1_) from ⟨_, rfl⟩) (.cons (show RelV (.str "wall") (.str "wall" tR2_) from ⟨_, rfl⟩) (.cons (show RelV (.str "weight") (.str "weight" tR3_) from ⟨_, rfl⟩) .nil))))⟩ (.cons (.str _) (.cons (.str _) (.cons (.str _) (.cons (.str _) .nil))))⟩, ⟨aO, ⟨_, PySem.W.mg_of X G z_ORDERS, rfl⟩, fun H S => .tupK ⟨_, _, _, kO, rfl, rfl, (by show 6 ≤ sizeLine; decide), (.cons (show RelV (.ref t0_) (.ref t0_) from rfl) (.cons (show RelV (.ref t1_) (.ref t1_) from rfl) (.cons (show RelV (.ref t2_) (.ref t2_) from rfl) (.cons (show RelV (.ref t3_) (.ref t3_) from rfl) (.cons (show RelV (.ref t4_) (.ref t4_) from rfl) (.cons (show RelV (.ref t5_) (.ref t5_) from rfl) .nil))))))⟩ (.cons (.tupK ⟨_, _, _, kt0_, rfl, rfl, (by show 3 ≤ sizeLine; decide), (.cons (show RelV (.int 0) (.int 0 x0_) from ⟨_, rfl⟩) (.cons (show RelV (.int 1) (.int 1 y0_) from ⟨_, rfl⟩) (.cons (show RelV (.int 2) (.int 2 w0_) from ⟨_, rfl⟩) .nil)))⟩ (.cons (.int _) (.cons (.int _) (.cons (.int _) .nil)))) (.cons (.tupK ⟨_, _, _, kt1_, rfl, rfl, (by show 3 ≤ sizeLine; decide), (.cons (show RelV (.int 0) (.int 0 x1_) from ⟨_, rfl⟩) (.cons (show RelV (.int 2) (.int 2 y1_) from ⟨_, rfl⟩) (.cons (show RelV (.int 1) (.int 1 w1_) from ⟨_, rfl⟩) .nil)))⟩ (.cons (.int _) (.cons (.int _) (.cons (.int _) .nil)))) (.cons (.tupK ⟨_, _, _, kt2_, rfl, rfl, (by show 3 ≤ sizeLine; decide), (.cons (show RelV (.int 1) (.int 1 x2_) from ⟨_, rfl⟩) (.cons (show RelV (.int 0) (.int 0 y2_) from ⟨_, rfl⟩) (.cons (show RelV (.int 2) (.int 2 w2_) from ⟨_, rfl⟩) .nil)))⟩ (.cons (.int _) (.cons (.int _) (.cons (.int _) .nil)))) (.cons (.tupK ⟨_, _, _, kt3_, rfl, rfl, (by show 3 ≤ sizeLine; decide), (.cons (show RelV (.int 1) (.int 1 x3_) from ⟨_, rfl⟩) (.cons (show RelV (.int 2) (.int 2 y3_) from ⟨_, rfl⟩) (.cons (show RelV (.int 0) (.int 0 w3_) from ⟨_, rfl⟩) .nil)))⟩ (.cons (.int _) (.cons (.int _) (.cons (.int _) .nil)))) (.cons (.tupK ⟨_, _, _, kt4_, rfl, rfl, (by show 3 ≤ sizeLine; decide), (.cons (show RelV (.int 2) (.int 2 x4_) from ⟨_, rfl⟩) (.cons (show RelV (.int 0) (.int 0 y4_) from ⟨_, rfl⟩) (.cons (show RelV (.int 1) (.int 1 w4_) from ⟨_, rfl⟩) .nil)))⟩ (.cons (.int _) (.cons (.int _) (.cons (.int _) .nil)))) (.cons (.tupK ⟨_, _, _, kt5_, rfl, rfl, (by show 3 ≤ sizeLine; decide), (.cons (show RelV (.int 2) (.int 2 x5_) from ⟨_, rfl⟩) (.cons (show RelV (.int 1) (.int 1 y5_) from ⟨_, rfl⟩) (.cons (show RelV (.int 0) (.int 0 w5_) from ⟨_, rfl⟩) .nil)))⟩ (.cons (.int _) (.cons (.int _) (.cons (.int _) .nil)))) .nil))))))⟩, fun A B h1 h2 => by cases (PySem.W.mg_of X G aXNoSize).symm.trans h1; cases (PySem.W.mg_of X G aXNoSize).symm.trans h2; exact VS.exm_own icNoSize tyXNoSize sbNoSize_NoSize exXNoSize⟩
  have k_Measure : Kl_Measure K mg C_Measure := ⟨PySem.W.mg_of X G aKMeasure, ⟨⟨pgKMeasure, hdKMeasure, poKMeasure, saKMeasure⟩, haKMeasure, hnO, htkO, hmKMeasure, VS.kit_self⟩, nKMeasure_called, nKMeasure_parts, VS.kit_own rfl icKMeasure tcKMeasure zKMeasure_int, VS.kit_own rfl icKMeasure tcKMeasure zKMeasure_bool, VS.kit_own rfl icKMeasure tcKMeasure zKMeasure_str, VS.kit_own rfl icKMeasure tcKMeasure zKMeasure_NoneType, VS.kit_own rfl icKMeasure tcKMeasure zKMeasure_list, VS.kit_own rfl icKMeasure tcKMeasure zKMeasure_tuple, VS.kit_own rfl icKMeasure tcKMeasure zKMeasure_dict, VS.kit_tyO (by decide +kernel) mKMeasure_0, VS.kit_tyO (by decide +kernel) mKMeasure_1, VS.kit_tyO (by decide +kernel) mKMeasure_2⟩
  have k_Sides : Kl_Sides K mg C_Sides := ⟨PySem.W.mg_of X G aKSides, ⟨⟨pgKSides, hdKSides, poKSides, saKSides⟩, haKSides, hnO, htkO, hmKSides, VS.kit_self⟩, nKSides_three, VS.kit_own rfl icKSides tcKSides zKSides_int, VS.kit_own rfl icKSides tcKSides zKSides_bool, VS.kit_own rfl icKSides tcKSides zKSides_str, VS.kit_own rfl icKSides tcKSides zKSides_NoneType, VS.kit_own rfl icKSides tcKSides zKSides_list, VS.kit_own rfl icKSides tcKSides zKSides_tuple, VS.kit_own rfl icKSides tcKSides zKSides_dict⟩
  have k_Parcel : Kl_Parcel K mg C_Parcel := ⟨PySem.W.mg_of X G aKParcel, ⟨⟨pgKParcel, hdKParcel, poKParcel, saKParcel⟩, haKParcel, hnO, htkO, hmKParcel, VS.kit_self⟩, nKParcel_called, nKParcel_outside, nKParcel_thick, nKParcel_heavy, nKParcel_strong, nKParcel_marks, VS.kit_own rfl icKParcel tcKParcel zKParcel_int, VS.kit_own rfl icKParcel tcKParcel zKParcel_bool, VS.kit_own rfl icKParcel tcKParcel zKParcel_str, VS.kit_own rfl icKParcel tcKParcel zKParcel_NoneType, VS.kit_own rfl icKParcel tcKParcel zKParcel_list, VS.kit_own rfl icKParcel tcKParcel zKParcel_tuple, VS.kit_own rfl icKParcel tcKParcel zKParcel_dict, mKParcel_0, mKParcel_1⟩
  have k_Heap : Kl_Heap K mg C_Heap := ⟨PySem.W.mg_of X G aKHeap, ⟨⟨pgKHeap, hdKHeap, poKHeap, saKHeap⟩, haKHeap, hnO, htkO, hmKHeap, VS.kit_self⟩, nKHeap_held⟩
  have F0 : VS.Fd K "is_whole" "is_whole" s_is_whole [] f0 _ := fd_mk l0 c0 k0
  have b0 : Binds K _ a_is_whole [] := F0.bindsN fun _ _ _ _ _ _ us hl => match us, hl with | [_, _, _], _ => rfl
  have F1 : VS.Fd K "is_name" "is_name" s_is_name [] f1 _ := fd_mk l1 c1 k1
  have b1 : Binds K _ a_is_name [] := F1.bindsN fun _ _ _ _ _ _ us hl => match us, hl with | [_], _ => rfl
  have F2 : VS.Fd K "number_of" "number_of" s_number_of [] f2 _ := fd_mk l2 c2 k2
  have b2 : Binds K _ a_number_of [] := F2.bindsN fun _ _ _ _ _ _ us hl => match us, hl with | [_], _ => rfl
  have F3 : VS.Fd K "words_of" "words_of" s_words_of [] f3 _ := fd_mk l3 c3 k3
  have b3 : Binds K _ a_words_of [] := F3.bindsN fun _ _ _ _ _ _ us hl => match us, hl with | [_], _ => rfl
  have F4 : VS.Fd K "__init__" "Sides.__init__" s_Sides___init__ [] f4 _ := fd_mk l4 c4 k4
  have b4 : Binds K _ a_Sides___init__ [] := F4.bindsN fun _ _ _ _ _ _ us hl => match us, hl with | [_, _, _, _], _ => rfl
  have F5 : VS.Fd K "told" "Sides.told" s_Sides_told [] f5 _ := fd_mk l5 c5 k5
  have b5 : Binds K _ a_Sides_told [] := F5.bindsN fun _ _ _ _ _ _ us hl => match us, hl with | [_], _ => rfl
  have F6 : VS.Fd K "are_labels" "are_labels" s_are_labels [] f6 _ := fd_mk l6 c6 k6
  have b6 : Binds K _ a_are_labels [] := F6.bindsN fun _ _ _ _ _ _ us hl => match us, hl with | [_], _ => rfl
  have F7 : VS.Fd K "__init__" "Parcel.__init__" s_Parcel___init__ [.int 1, .int 0, .int 0, .non] f7 _ := fd_mkD l7 c7 k7 (by decide) t7 (.cons (show RelV (.int 1) _ from ⟨_, rfl⟩) (.cons (show RelV (.int 0) _ from ⟨_, rfl⟩) (.cons (show RelV (.int 0) _ from ⟨_, rfl⟩) (.cons (show RelV (.non) _ from rfl) .nil))))
  obtain ⟨bb7⟩ := VS.bdN (ps := a_Parcel___init__) F7 7 4 (by decide) rfl (fun T kV doc pm an cdv ct us its h1 h2 => match us, its, h1, h2 with | [_, _, _, _, _, _, _], [_, _, _, _], _, _ => ⟨_, rfl, rfl⟩)
  have b7 : Binds K _ a_Parcel___init__ [] := VS.bd_nil bb7
  have F8 : VS.Fd K "name" "Parcel.name" s_Parcel_name [] f8 _ := fd_mk l8 c8 k8
  have b8 : Binds K _ a_Parcel_name [] := F8.bindsN fun _ _ _ _ _ _ us hl => match us, hl with | [_], _ => rfl
  have F9 : VS.Fd K "sides" "Parcel.sides" s_Parcel_sides [] f9 _ := fd_mk l9 c9 k9
  have b9 : Binds K _ a_Parcel_sides [] := F9.bindsN fun _ _ _ _ _ _ us hl => match us, hl with | [_], _ => rfl
  have F10 : VS.Fd K "wall" "Parcel.wall" s_Parcel_wall [] f10 _ := fd_mk l10 c10 k10
  have b10 : Binds K _ a_Parcel_wall [] := F10.bindsN fun _ _ _ _ _ _ us hl => match us, hl with | [_], _ => rfl
  have F11 : VS.Fd K "weight" "Parcel.weight" s_Parcel_weight [] f11 _ := fd_mk l11 c11 k11
  have b11 : Binds K _ a_Parcel_weight [] := F11.bindsN fun _ _ _ _ _ _ us hl => match us, hl with | [_], _ => rfl
  have F12 : VS.Fd K "bears" "Parcel.bears" s_Parcel_bears [] f12 _ := fd_mk l12 c12 k12
  have b12 : Binds K _ a_Parcel_bears [] := F12.bindsN fun _ _ _ _ _ _ us hl => match us, hl with | [_], _ => rfl
  have F13 : VS.Fd K "labels" "Parcel.labels" s_Parcel_labels [] f13 _ := fd_mk l13 c13 k13
  have b13 : Binds K _ a_Parcel_labels [] := F13.bindsN fun _ _ _ _ _ _ us hl => match us, hl with | [_], _ => rfl
  have F14 : VS.Fd K "__init__" "Heap.__init__" s_Heap___init__ [] f14 _ := fd_mk l14 c14 k14
  have b14 : Binds K _ a_Heap___init__ [] := F14.bindsN fun _ _ _ _ _ _ us hl => match us, hl with | [_], _ => rfl
  have F15 : VS.Fd K "names" "Heap.names" s_Heap_names [] f15 _ := fd_mk l15 c15 k15
  have b15 : Binds K _ a_Heap_names [] := F15.bindsN fun _ _ _ _ _ _ us hl => match us, hl with | [_], _ => rfl
  have F16 : VS.Fd K "put" "Heap.put" s_Heap_put [.non] f16 _ := fd_mkD l16 c16 k16 (by decide) t16 (.cons (show RelV (.non) _ from rfl) .nil)
  obtain ⟨bb16⟩ := VS.bdN (ps := a_Heap_put) F16 3 1 (by decide) rfl (fun T kV doc pm an cdv ct us its h1 h2 => match us, its, h1, h2 with | [_, _, _], [_], _, _ => ⟨_, rfl, rfl⟩)
  have b16 : Binds K _ a_Heap_put [] := VS.bd_nil bb16
  have F17 : VS.Fd K "parcels" "Heap.parcels" s_Heap_parcels [] f17 _ := fd_mk l17 c17 k17
  have b17 : Binds K _ a_Heap_parcels [] := F17.bindsN fun _ _ _ _ _ _ us hl => match us, hl with | [_], _ => rfl
  have F18 : VS.Fd K "is_unit" "is_unit" s_is_unit [] f18 _ := fd_mk l18 c18 k18
  have b18 : Binds K _ a_is_unit [] := F18.bindsN fun _ _ _ _ _ _ us hl => match us, hl with | [_], _ => rfl
  have F19 : VS.Fd K "are_units" "are_units" s_are_units [] f19 _ := fd_mk l19 c19 k19
  have b19 : Binds K _ a_are_units [] := F19.bindsN fun _ _ _ _ _ _ us hl => match us, hl with | [_], _ => rfl
  have F20 : VS.Fd K "__init__" "Measure.__init__" s_Measure___init__ [] f20 _ := fd_mk l20 c20 k20
  have b20 : Binds K _ a_Measure___init__ [] := F20.bindsN fun _ _ _ _ _ _ us hl => match us, hl with | [_, _, _], _ => rfl
  have F21 : VS.Fd K "text" "Measure.text" s_Measure_text [] f21 _ := fd_mk l21 c21 k21
  have b21 : Binds K _ a_Measure_text [] := F21.bindsN fun _ _ _ _ _ _ us hl => match us, hl with | [_, _], _ => rfl
  have F22 : VS.Fd K "sum_of" "Measure.sum_of" s_Measure_sum_of [] f22 _ := fd_mk l22 c22 k22
  have b22 : Binds K _ a_Measure_sum_of [] := F22.bindsN fun _ _ _ _ _ _ us hl => match us, hl with | [_, _], _ => rfl
  have F23 : VS.Fd K "points" "Measure.points" s_Measure_points [] f23 _ := fd_mk l23 c23 k23
  have b23 : Binds K _ a_Measure_points [] := F23.bindsN fun _ _ _ _ _ _ us hl => match us, hl with | [_, _], _ => rfl
  have F24 : VS.Fd K "need_measure" "need_measure" s_need_measure [] f24 _ := fd_mk l24 c24 k24
  have b24 : Binds K _ a_need_measure [] := F24.bindsN fun _ _ _ _ _ _ us hl => match us, hl with | [_], _ => rfl
  have F25 : VS.Fd K "front_words" "front_words" s_front_words [] f25 _ := fd_mk l25 c25 k25
  have b25 : Binds K _ a_front_words [] := F25.bindsN fun _ _ _ _ _ _ us hl => match us, hl with | [_, _], _ => rfl
  have F26 : VS.Fd K "parcel_row" "parcel_row" s_parcel_row [] f26 _ := fd_mk l26 c26 k26
  have b26 : Binds K _ a_parcel_row [] := F26.bindsN fun _ _ _ _ _ _ us hl => match us, hl with | [_, _], _ => rfl
  have F27 : VS.Fd K "show_heap" "show_heap" s_show_heap [] f27 _ := fd_mk l27 c27 k27
  have b27 : Binds K _ a_show_heap [] := F27.bindsN fun _ _ _ _ _ _ us hl => match us, hl with | [_, _], _ => rfl
  have F28 : VS.Fd K "parted" "parted" s_parted [] f28 _ := fd_mk l28 c28 k28
  have b28 : Binds K _ a_parted [] := F28.bindsN fun _ _ _ _ _ _ us hl => match us, hl with | [_, _], _ => rfl
  have F29 : VS.Fd K "size_of" "size_of" s_size_of [] f29 _ := fd_mk l29 c29 k29
  have b29 : Binds K _ a_size_of [] := F29.bindsN fun _ _ _ _ _ _ us hl => match us, hl with | [_, _], _ => rfl
  have F30 : VS.Fd K "front_of" "front_of" s_front_of [] f30 _ := fd_mk l30 c30 k30
  have b30 : Binds K _ a_front_of [] := F30.bindsN fun _ _ _ _ _ _ us hl => match us, hl with | [_, _], _ => rfl
  have F31 : VS.Fd K "back_of" "back_of" s_back_of [] f31 _ := fd_mk l31 c31 k31
  have b31 : Binds K _ a_back_of [] := F31.bindsN fun _ _ _ _ _ _ us hl => match us, hl with | [_], _ => rfl
  have F32 : VS.Fd K "parcel_told" "parcel_told" s_parcel_told [] f32 _ := fd_mk l32 c32 k32
  have b32 : Binds K _ a_parcel_told [] := F32.bindsN fun _ _ _ _ _ _ us hl => match us, hl with | [_, _], _ => rfl
  have F33 : VS.Fd K "parcel_of" "parcel_of" s_parcel_of [] f33 _ := fd_mk l33 c33 k33
  have b33 : Binds K _ a_parcel_of [] := F33.bindsN fun _ _ _ _ _ _ us hl => match us, hl with | [_], _ => rfl
  have F34 : VS.Fd K "read_heap" "read_heap" s_read_heap [] f34 _ := fd_mk l34 c34 k34
  have b34 : Binds K _ a_read_heap [] := F34.bindsN fun _ _ _ _ _ _ us hl => match us, hl with | [_, _], _ => rfl
  have F35 : VS.Fd K "heap_retold" "heap_retold" s_heap_retold [] f35 _ := fd_mk l35 c35 k35
  have b35 : Binds K _ a_heap_retold [] := F35.bindsN fun _ _ _ _ _ _ us hl => match us, hl with | [_, _, _], _ => rfl
  have F36 : VS.Fd K "is_order" "is_order" s_is_order [] f36 _ := fd_mk l36 c36 k36
  have b36 : Binds K _ a_is_order [] := F36.bindsN fun _ _ _ _ _ _ us hl => match us, hl with | [_], _ => rfl
  have F37 : VS.Fd K "turned" "Sides.turned" s_Sides_turned [] f37 _ := fd_mk l37 c37 k37
  have b37 : Binds K _ a_Sides_turned [] := F37.bindsN fun _ _ _ _ _ _ us hl => match us, hl with | [_, _], _ => rfl
  have F38 : VS.Fd K "orders_to" "Sides.orders_to" s_Sides_orders_to [] f38 _ := fd_mk l38 c38 k38
  have b38 : Binds K _ a_Sides_orders_to [] := F38.bindsN fun _ _ _ _ _ _ us hl => match us, hl with | [_, _], _ => rfl
  have F39 : VS.Fd K "numbers" "Parcel.numbers" s_Parcel_numbers [] f39 _ := fd_mk l39 c39 k39
  have b39 : Binds K _ a_Parcel_numbers [] := F39.bindsN fun _ _ _ _ _ _ us hl => match us, hl with | [_], _ => rfl
  have F40 : VS.Fd K "kind" "Parcel.kind" s_Parcel_kind [] f40 _ := fd_mk l40 c40 k40
  have b40 : Binds K _ a_Parcel_kind [] := F40.bindsN fun _ _ _ _ _ _ us hl => match us, hl with | [_], _ => rfl
  have F41 : VS.Fd K "lies_like" "Parcel.lies_like" s_Parcel_lies_like [] f41 _ := fd_mk l41 c41 k41
  have b41 : Binds K _ a_Parcel_lies_like [] := F41.bindsN fun _ _ _ _ _ _ us hl => match us, hl with | [_, _], _ => rfl
  have F42 : VS.Fd K "__eq__" "Parcel.__eq__" s_Parcel___eq__ [] f42 _ := fd_mk l42 c42 k42
  have b42 : Binds K _ a_Parcel___eq__ [] := F42.bindsN fun _ _ _ _ _ _ us hl => match us, hl with | [_, _], _ => rfl
  have F43 : VS.Fd K "__len__" "Heap.__len__" s_Heap___len__ [] f43 _ := fd_mk l43 c43 k43
  have b43 : Binds K _ a_Heap___len__ [] := F43.bindsN fun _ _ _ _ _ _ us hl => match us, hl with | [_], _ => rfl
  have F44 : VS.Fd K "__eq__" "Heap.__eq__" s_Heap___eq__ [] f44 _ := fd_mk l44 c44 k44
  have b44 : Binds K _ a_Heap___eq__ [] := F44.bindsN fun _ _ _ _ _ _ us hl => match us, hl with | [_, _], _ => rfl
  have F45 : VS.Fd K "_law_cell" "_law_cell" s__law_cell [] f45 _ := fd_mk l45 c45 k45
  have b45 : Binds K _ a__law_cell [] := F45.bindsN fun _ _ _ _ _ _ us hl => match us, hl with | [_, _], _ => rfl
  have F46 : VS.Fd K "_law_purse" "_law_purse" s__law_purse [] f46 _ := fd_mk l46 c46 k46
  have b46 : Binds K _ a__law_purse [] := F46.bindsN fun _ _ _ _ _ _ us hl => match us, hl with | [_], _ => rfl
  have F47 : VS.Fd K "_law_take" "_law_take" s__law_take [] f47 _ := fd_mk l47 c47 k47
  have b47 : Binds K _ a__law_take [] := F47.bindsN fun _ _ _ _ _ _ us hl => match us, hl with | [_, _], _ => rfl
  have F48 : VS.Fd K "_law_names" "_law_names" s__law_names [] f48 _ := fd_mk l48 c48 k48
  have b48 : Binds K _ a__law_names [] := F48.bindsN fun _ _ _ _ _ _ us hl => match us, hl with | [_, _], _ => rfl
  have F49 : VS.Fd K "_law_three" "_law_three" s__law_three [] f49 _ := fd_mk l49 c49 k49
  have b49 : Binds K _ a__law_three [] := F49.bindsN fun _ _ _ _ _ _ us hl => match us, hl with | [_, _], _ => rfl
  have F50 : VS.Fd K "_law_units" "_law_units" s__law_units [] f50 _ := fd_mk l50 c50 k50
  have b50 : Binds K _ a__law_units [] := F50.bindsN fun _ _ _ _ _ _ us hl => match us, hl with | [_], _ => rfl
  have F51 : VS.Fd K "_law_size" "_law_size" s__law_size [] f51 _ := fd_mk l51 c51 k51
  have b51 : Binds K _ a__law_size [] := F51.bindsN fun _ _ _ _ _ _ us hl => match us, hl with | [_, _], _ => rfl
  have F52 : VS.Fd K "_law_loose" "_law_loose" s__law_loose [] f52 _ := fd_mk l52 c52 k52
  have b52 : Binds K _ a__law_loose [] := F52.bindsN fun _ _ _ _ _ _ us hl => match us, hl with | [_, _, _, _], _ => rfl
  have F53 : VS.Fd K "_law_row" "_law_row" s__law_row [] f53 _ := fd_mk l53 c53 k53
  have b53 : Binds K _ a__law_row [] := F53.bindsN fun _ _ _ _ _ _ us hl => match us, hl with | [_, _], _ => rfl
  have F54 : VS.Fd K "_law_parcel" "_law_parcel" s__law_parcel [] f54 _ := fd_mk l54 c54 k54
  have b54 : Binds K _ a__law_parcel [] := F54.bindsN fun _ _ _ _ _ _ us hl => match us, hl with | [_], _ => rfl
  have F55 : VS.Fd K "_law_heap" "_law_heap" s__law_heap [] f55 _ := fd_mk l55 c55 k55
  have b55 : Binds K _ a__law_heap [] := F55.bindsN fun _ _ _ _ _ _ us hl => match us, hl with | [_], _ => rfl
  have F56 : VS.Fd K "_law_written" "_law_written" s__law_written [] f56 _ := fd_mk l56 c56 k56
  have b56 : Binds K _ a__law_written [] := F56.bindsN fun _ _ _ _ _ _ us hl => match us, hl with | [_, _], _ => rfl
  have F57 : VS.Fd K "_law_loose_text" "_law_loose_text" s__law_loose_text [] f57 _ := fd_mk l57 c57 k57
  have b57 : Binds K _ a__law_loose_text [] := F57.bindsN fun _ _ _ _ _ _ us hl => match us, hl with | [_, _, _, _], _ => rfl
  have F58 : VS.Fd K "_law_is_heap" "_law_is_heap" s__law_is_heap [] f58 _ := fd_mk l58 c58 k58
  have b58 : Binds K _ a__law_is_heap [] := F58.bindsN fun _ _ _ _ _ _ us hl => match us, hl with | [_, _], _ => rfl
  have F59 : VS.Fd K "_law_other_units" "_law_other_units" s__law_other_units [] f59 _ := fd_mk l59 c59 k59
  have b59 : Binds K _ a__law_other_units [] := F59.bindsN fun _ _ _ _ _ _ us hl => match us, hl with | [_, _], _ => rfl
  have F60 : VS.Fd K "law" "law" s_law [] fa _ := fd_mk l60 c60 k60
  have FXNoNumber : VS.Fd K "__init__" "NoNumber.__init__" s_NoNumber___init__ [] fXNoNumber _ := fd_mk lXNoNumber cXNoNumber kXNoNumber
  have bXNoNumber : Binds K _ a_NoNumber___init__ [] := FXNoNumber.bindsN fun _ _ _ _ _ _ us hl => match us, hl with | [_, _], _ => rfl
  have FXNoSize : VS.Fd K "__init__" "NoSize.__init__" s_NoSize___init__ [] fXNoSize _ := fd_mk lXNoSize cXNoSize kXNoSize
  have bXNoSize : Binds K _ a_NoSize___init__ [] := FXNoSize.bindsN fun _ _ _ _ _ _ us hl => match us, hl with | [_, _], _ => rfl
  have FXNoMeasure : VS.Fd K "__init__" "NoMeasure.__init__" s_NoMeasure___init__ [] fXNoMeasure _ := fd_mk lXNoMeasure cXNoMeasure kXNoMeasure
  have bXNoMeasure : Binds K _ a_NoMeasure___init__ [] := FXNoMeasure.bindsN fun _ _ _ _ _ _ us hl => match us, hl with | [_, _], _ => rfl
  have FXNoSide : VS.Fd K "__init__" "NoSide.__init__" s_NoSide___init__ [] fXNoSide _ := fd_mk lXNoSide cXNoSide kXNoSide
  have bXNoSide : Binds K _ a_NoSide___init__ [] := FXNoSide.bindsN fun _ _ _ _ _ _ us hl => match us, hl with | [_, _], _ => rfl
  have FXNoOrder : VS.Fd K "__init__" "NoOrder.__init__" s_NoOrder___init__ [] fXNoOrder _ := fd_mk lXNoOrder cXNoOrder kXNoOrder
  have bXNoOrder : Binds K _ a_NoOrder___init__ [] := FXNoOrder.bindsN fun _ _ _ _ _ _ us hl => match us, hl with | [_, _], _ => rfl
  have FXNoSides : VS.Fd K "__init__" "NoSides.__init__" s_NoSides___init__ [] fXNoSides _ := fd_mk lXNoSides cXNoSides kXNoSides
  have bXNoSides : Binds K _ a_NoSides___init__ [] := FXNoSides.bindsN fun _ _ _ _ _ _ us hl => match us, hl with | [_, _], _ => rfl
  refine ⟨_, fun s u => F60.bindsA (ps := ["_law_script"]) (fun _ _ _ _ _ _ us hl => match us, hl with | [_], _ => rfl) s [u] rfl, fun base _ _ hsys => ?_⟩
  have oxXNoNumber : VS.OexG K C_NoNumber := ⟨⟨nmXNoNumber, qnXNoNumber, NXNoNumber, bsXNoNumber, _, snXNoNumber, suXNoNumber, abXNoNumber, coXNoNumber, ddXNoNumber, k0XNoNumber, k1XNoNumber, k2XNoNumber, k3XNoNumber, k5XNoNumber, _, xXNoNumber, VS.bmG_VE.up⟩, saXNoNumber, exXNoNumber, tyXNoNumber, kcXNoNumber⟩
  have x_NoNumber : VS.Xc l.prog w K mg base "NoNumber" C_NoNumber "found" := ⟨oxXNoNumber, ⟨gaXNoNumber, ggXNoNumber, exXNoNumber, hdXNoNumber⟩, noXNoNumber, PySem.W.mg_of X G aXNoNumber, fXNoNumber, _, _, iXNoNumber, tXNoNumber, VS.xinit_ok (f := "found") FXNoNumber sc_NoNumber___init__ rfl oxXNoNumber noXNoNumber (fun cdv A outer s H E => pss_one (VS.ps_ostG (pv 0) (pv 1))), bXNoNumber⟩
  have oxXNoSize : VS.OexG K C_NoSize := ⟨⟨nmXNoSize, qnXNoSize, NXNoSize, bsXNoSize, _, snXNoSize, suXNoSize, abXNoSize, coXNoSize, ddXNoSize, k0XNoSize, k1XNoSize, k2XNoSize, k3XNoSize, k5XNoSize, _, xXNoSize, VS.bmG_VE.up⟩, saXNoSize, exXNoSize, tyXNoSize, kcXNoSize⟩
  have x_NoSize : VS.Xc l.prog w K mg base "NoSize" C_NoSize "found" := ⟨oxXNoSize, ⟨gaXNoSize, ggXNoSize, exXNoSize, hdXNoSize⟩, noXNoSize, PySem.W.mg_of X G aXNoSize, fXNoSize, _, _, iXNoSize, tXNoSize, VS.xinit_ok (f := "found") FXNoSize sc_NoSize___init__ rfl oxXNoSize noXNoSize (fun cdv A outer s H E => pss_one (VS.ps_ostG (pv 0) (pv 1))), bXNoSize⟩
  have oxXNoMeasure : VS.OexG K C_NoMeasure := ⟨⟨nmXNoMeasure, qnXNoMeasure, NXNoMeasure, bsXNoMeasure, _, snXNoMeasure, suXNoMeasure, abXNoMeasure, coXNoMeasure, ddXNoMeasure, k0XNoMeasure, k1XNoMeasure, k2XNoMeasure, k3XNoMeasure, k5XNoMeasure, _, xXNoMeasure, VS.bmG_VE.up⟩, saXNoMeasure, exXNoMeasure, tyXNoMeasure, kcXNoMeasure⟩
  have x_NoMeasure : VS.Xc l.prog w K mg base "NoMeasure" C_NoMeasure "found" := ⟨oxXNoMeasure, ⟨gaXNoMeasure, ggXNoMeasure, exXNoMeasure, hdXNoMeasure⟩, noXNoMeasure, PySem.W.mg_of X G aXNoMeasure, fXNoMeasure, _, _, iXNoMeasure, tXNoMeasure, VS.xinit_ok (f := "found") FXNoMeasure sc_NoMeasure___init__ rfl oxXNoMeasure noXNoMeasure (fun cdv A outer s H E => pss_one (VS.ps_ostG (pv 0) (pv 1))), bXNoMeasure⟩
  have oxXNoSide : VS.OexG K C_NoSide := ⟨⟨nmXNoSide, qnXNoSide, NXNoSide, bsXNoSide, _, snXNoSide, suXNoSide, abXNoSide, coXNoSide, ddXNoSide, k0XNoSide, k1XNoSide, k2XNoSide, k3XNoSide, k5XNoSide, _, xXNoSide, VS.bmG_VE.up⟩, saXNoSide, exXNoSide, tyXNoSide, kcXNoSide⟩
  have x_NoSide : VS.Xc l.prog w K mg base "NoSide" C_NoSide "found" := ⟨oxXNoSide, ⟨gaXNoSide, ggXNoSide, exXNoSide, hdXNoSide⟩, noXNoSide, PySem.W.mg_of X G aXNoSide, fXNoSide, _, _, iXNoSide, tXNoSide, VS.xinit_ok (f := "found") FXNoSide sc_NoSide___init__ rfl oxXNoSide noXNoSide (fun cdv A outer s H E => pss_one (VS.ps_ostG (pv 0) (pv 1))), bXNoSide⟩
  have oxXNoOrder : VS.OexG K C_NoOrder := ⟨⟨nmXNoOrder, qnXNoOrder, NXNoOrder, bsXNoOrder, _, snXNoOrder, suXNoOrder, abXNoOrder, coXNoOrder, ddXNoOrder, k0XNoOrder, k1XNoOrder, k2XNoOrder, k3XNoOrder, k5XNoOrder, _, xXNoOrder, VS.bmG_VE.up⟩, saXNoOrder, exXNoOrder, tyXNoOrder, kcXNoOrder⟩
  have x_NoOrder : VS.Xc l.prog w K mg base "NoOrder" C_NoOrder "found" := ⟨oxXNoOrder, ⟨gaXNoOrder, ggXNoOrder, exXNoOrder, hdXNoOrder⟩, noXNoOrder, PySem.W.mg_of X G aXNoOrder, fXNoOrder, _, _, iXNoOrder, tXNoOrder, VS.xinit_ok (f := "found") FXNoOrder sc_NoOrder___init__ rfl oxXNoOrder noXNoOrder (fun cdv A outer s H E => pss_one (VS.ps_ostG (pv 0) (pv 1))), bXNoOrder⟩
  have oxXNoSides : VS.OexG K C_NoSides := ⟨⟨nmXNoSides, qnXNoSides, NXNoSides, bsXNoSides, _, snXNoSides, suXNoSides, abXNoSides, coXNoSides, ddXNoSides, k0XNoSides, k1XNoSides, k2XNoSides, k3XNoSides, k5XNoSides, _, xXNoSides, VS.bmG_VE.up⟩, saXNoSides, exXNoSides, tyXNoSides, kcXNoSides⟩
  have x_NoSides : VS.Xc l.prog w K mg base "NoSides" C_NoSides "found" := ⟨oxXNoSides, ⟨gaXNoSides, ggXNoSides, exXNoSides, hdXNoSides⟩, noXNoSides, PySem.W.mg_of X G aXNoSides, fXNoSides, _, _, iXNoSides, tXNoSides, VS.xinit_ok (f := "found") FXNoSides sc_NoSides___init__ rfl oxXNoSides noXNoSides (fun cdv A outer s H E => pss_one (VS.ps_ostG (pv 0) (pv 1))), bXNoSides⟩
  have c_is_whole : VS.Cf l.prog w K mg base (L2.CX l.prog w) 1 "is_whole" s_is_whole [] a_is_whole (p_is_whole K) f0 _ := ⟨ok_is_whole (C_Measure := C_Measure) (C_Sides := C_Sides) (C_Parcel := C_Parcel) (C_Heap := C_Heap) (C_NoNumber := C_NoNumber) (C_NoSize := C_NoSize) (C_NoMeasure := C_NoMeasure) (C_NoSide := C_NoSide) (C_NoOrder := C_NoOrder) (C_NoSides := C_NoSides) F0 T hsys, F0, PySem.W.mg_of X G a0, b0⟩
  have c_is_name : VS.Cf l.prog w K mg base (L2.CX l.prog w) 1 "is_name" s_is_name [] a_is_name (p_is_name K) f1 _ := ⟨ok_is_name (C_Measure := C_Measure) (C_Sides := C_Sides) (C_Parcel := C_Parcel) (C_Heap := C_Heap) (C_NoNumber := C_NoNumber) (C_NoSize := C_NoSize) (C_NoMeasure := C_NoMeasure) (C_NoSide := C_NoSide) (C_NoOrder := C_NoOrder) (C_NoSides := C_NoSides) F1 T hsys, F1, PySem.W.mg_of X G a1, b1⟩
  have c_number_of : VS.Cf l.prog w K mg base (L2.CX l.prog w) 1 "number_of" s_number_of [] a_number_of (p_number_of K) f2 _ := ⟨ok_number_of (C_Measure := C_Measure) (C_Sides := C_Sides) (C_Parcel := C_Parcel) (C_Heap := C_Heap) (C_NoNumber := C_NoNumber) (C_NoSize := C_NoSize) (C_NoMeasure := C_NoMeasure) (C_NoSide := C_NoSide) (C_NoOrder := C_NoOrder) (C_NoSides := C_NoSides) F2 T hsys, F2, PySem.W.mg_of X G a2, b2⟩
  have c_words_of : VS.Cf l.prog w K mg base (L2.CX l.prog w) 1 "words_of" s_words_of [] a_words_of (p_words_of K) f3 _ := ⟨ok_words_of (C_Measure := C_Measure) (C_Sides := C_Sides) (C_Parcel := C_Parcel) (C_Heap := C_Heap) (C_NoNumber := C_NoNumber) (C_NoSize := C_NoSize) (C_NoMeasure := C_NoMeasure) (C_NoSide := C_NoSide) (C_NoOrder := C_NoOrder) (C_NoSides := C_NoSides) F3 T hsys, F3, PySem.W.mg_of X G a3, b3⟩
  have c_Sides : VS.Kf l.prog w K mg base 3 "Sides" C_Sides "Sides.__init__" s_Sides___init__ [] a_Sides___init__ (p_Sides_init K C_Sides C_NoSide) f4 _ := ⟨⟨mk4, a4, i4, kc4⟩, ok_Sides___init__ (C_Measure := C_Measure) (C_Sides := C_Sides) (C_Parcel := C_Parcel) (C_Heap := C_Heap) (C_NoNumber := C_NoNumber) (C_NoSize := C_NoSize) (C_NoMeasure := C_NoMeasure) (C_NoSide := C_NoSide) (C_NoOrder := C_NoOrder) (C_NoSides := C_NoSides) F4 T hsys c_is_whole x_NoSide k_Sides, F4, k_Sides.at_, b4⟩
  have c_Sides_told : VS.Mf l.prog w K mg base 1 C_Sides "told" "Sides.told" s_Sides_told [] a_Sides_told (p_told C_Sides) f5 _ := ⟨ok_Sides_told (C_Measure := C_Measure) (C_Sides := C_Sides) (C_Parcel := C_Parcel) (C_Heap := C_Heap) (C_NoNumber := C_NoNumber) (C_NoSize := C_NoSize) (C_NoMeasure := C_NoMeasure) (C_NoSide := C_NoSide) (C_NoOrder := C_NoOrder) (C_NoSides := C_NoSides) F5 T hsys k_Sides, F5, k_Sides.ins.cl, ⟨a5, i5, k5⟩, b5⟩
  have c_are_labels : VS.Cf l.prog w K mg base (L2.CX l.prog w) 1 "are_labels" s_are_labels [] a_are_labels p_are_labels f6 _ := ⟨ok_are_labels (C_Measure := C_Measure) (C_Sides := C_Sides) (C_Parcel := C_Parcel) (C_Heap := C_Heap) (C_NoNumber := C_NoNumber) (C_NoSize := C_NoSize) (C_NoMeasure := C_NoMeasure) (C_NoSide := C_NoSide) (C_NoOrder := C_NoOrder) (C_NoSides := C_NoSides) F6 T hsys, F6, PySem.W.mg_of X G a6, b6⟩
  have c_Parcel : VS.Kf l.prog w K mg base 3 "Parcel" C_Parcel "Parcel.__init__" s_Parcel___init__ [.int 1, .int 0, .int 0, .non] a_Parcel___init__ (p_Pc_init C_Parcel C_Sides) f7 _ := ⟨⟨mk7, a7, i7, kc7⟩, ok_Parcel___init__ (C_Measure := C_Measure) (C_Sides := C_Sides) (C_Parcel := C_Parcel) (C_Heap := C_Heap) (C_NoNumber := C_NoNumber) (C_NoSize := C_NoSize) (C_NoMeasure := C_NoMeasure) (C_NoSide := C_NoSide) (C_NoOrder := C_NoOrder) (C_NoSides := C_NoSides) F7 T hsys c_is_name c_is_whole c_are_labels k_Sides k_Parcel, F7, k_Parcel.at_, b7⟩
  have c_Parcel_name : VS.Mf l.prog w K mg base 1 C_Parcel "name" "Parcel.name" s_Parcel_name [] a_Parcel_name (p_Pc_name C_Parcel C_Sides) f8 _ := ⟨ok_Parcel_name (C_Measure := C_Measure) (C_Sides := C_Sides) (C_Parcel := C_Parcel) (C_Heap := C_Heap) (C_NoNumber := C_NoNumber) (C_NoSize := C_NoSize) (C_NoMeasure := C_NoMeasure) (C_NoSide := C_NoSide) (C_NoOrder := C_NoOrder) (C_NoSides := C_NoSides) F8 T hsys k_Parcel k_Sides, F8, k_Parcel.ins.cl, ⟨a8, i8, k8⟩, b8⟩
  have c_Parcel_sides : VS.Mf l.prog w K mg base 1 C_Parcel "sides" "Parcel.sides" s_Parcel_sides [] a_Parcel_sides (p_Pc_sides C_Parcel C_Sides) f9 _ := ⟨ok_Parcel_sides (C_Measure := C_Measure) (C_Sides := C_Sides) (C_Parcel := C_Parcel) (C_Heap := C_Heap) (C_NoNumber := C_NoNumber) (C_NoSize := C_NoSize) (C_NoMeasure := C_NoMeasure) (C_NoSide := C_NoSide) (C_NoOrder := C_NoOrder) (C_NoSides := C_NoSides) F9 T hsys k_Parcel k_Sides, F9, k_Parcel.ins.cl, ⟨a9, i9, k9⟩, b9⟩
  have c_Parcel_wall : VS.Mf l.prog w K mg base 1 C_Parcel "wall" "Parcel.wall" s_Parcel_wall [] a_Parcel_wall (p_Pc_wall C_Parcel C_Sides) f10 _ := ⟨ok_Parcel_wall (C_Measure := C_Measure) (C_Sides := C_Sides) (C_Parcel := C_Parcel) (C_Heap := C_Heap) (C_NoNumber := C_NoNumber) (C_NoSize := C_NoSize) (C_NoMeasure := C_NoMeasure) (C_NoSide := C_NoSide) (C_NoOrder := C_NoOrder) (C_NoSides := C_NoSides) F10 T hsys k_Parcel k_Sides, F10, k_Parcel.ins.cl, ⟨a10, i10, k10⟩, b10⟩
  have c_Parcel_weight : VS.Mf l.prog w K mg base 1 C_Parcel "weight" "Parcel.weight" s_Parcel_weight [] a_Parcel_weight (p_Pc_weight C_Parcel C_Sides) f11 _ := ⟨ok_Parcel_weight (C_Measure := C_Measure) (C_Sides := C_Sides) (C_Parcel := C_Parcel) (C_Heap := C_Heap) (C_NoNumber := C_NoNumber) (C_NoSize := C_NoSize) (C_NoMeasure := C_NoMeasure) (C_NoSide := C_NoSide) (C_NoOrder := C_NoOrder) (C_NoSides := C_NoSides) F11 T hsys k_Parcel k_Sides, F11, k_Parcel.ins.cl, ⟨a11, i11, k11⟩, b11⟩
  have c_Parcel_bears : VS.Mf l.prog w K mg base 1 C_Parcel "bears" "Parcel.bears" s_Parcel_bears [] a_Parcel_bears (p_Pc_bears C_Parcel C_Sides) f12 _ := ⟨ok_Parcel_bears (C_Measure := C_Measure) (C_Sides := C_Sides) (C_Parcel := C_Parcel) (C_Heap := C_Heap) (C_NoNumber := C_NoNumber) (C_NoSize := C_NoSize) (C_NoMeasure := C_NoMeasure) (C_NoSide := C_NoSide) (C_NoOrder := C_NoOrder) (C_NoSides := C_NoSides) F12 T hsys k_Parcel k_Sides, F12, k_Parcel.ins.cl, ⟨a12, i12, k12⟩, b12⟩
  have c_Parcel_labels : VS.Mf l.prog w K mg base 1 C_Parcel "labels" "Parcel.labels" s_Parcel_labels [] a_Parcel_labels (p_Pc_labelsB C_Parcel C_Sides) f13 _ := ⟨ok_Parcel_labels (C_Measure := C_Measure) (C_Sides := C_Sides) (C_Parcel := C_Parcel) (C_Heap := C_Heap) (C_NoNumber := C_NoNumber) (C_NoSize := C_NoSize) (C_NoMeasure := C_NoMeasure) (C_NoSide := C_NoSide) (C_NoOrder := C_NoOrder) (C_NoSides := C_NoSides) F13 T hsys k_Parcel k_Sides, F13, k_Parcel.ins.cl, ⟨a13, i13, k13⟩, b13⟩
  have c_Heap : VS.Kf l.prog w K mg base 1 "Heap" C_Heap "Heap.__init__" s_Heap___init__ [] a_Heap___init__ (p_Hp_init C_Heap) f14 _ := ⟨⟨mk14, a14, i14, kc14⟩, ok_Heap___init__ (C_Measure := C_Measure) (C_Sides := C_Sides) (C_Parcel := C_Parcel) (C_Heap := C_Heap) (C_NoNumber := C_NoNumber) (C_NoSize := C_NoSize) (C_NoMeasure := C_NoMeasure) (C_NoSide := C_NoSide) (C_NoOrder := C_NoOrder) (C_NoSides := C_NoSides) F14 T hsys k_Heap, F14, k_Heap.at_, b14⟩
  have c_Heap_names : VS.Mf l.prog w K mg base 2 C_Heap "names" "Heap.names" s_Heap_names [] a_Heap_names (p_Hp_names C_Heap C_Parcel C_Sides) f15 _ := ⟨ok_Heap_names (C_Measure := C_Measure) (C_Sides := C_Sides) (C_Parcel := C_Parcel) (C_Heap := C_Heap) (C_NoNumber := C_NoNumber) (C_NoSize := C_NoSize) (C_NoMeasure := C_NoMeasure) (C_NoSide := C_NoSide) (C_NoOrder := C_NoOrder) (C_NoSides := C_NoSides) F15 T hsys c_Parcel_name k_Heap k_Parcel k_Sides, F15, k_Heap.ins.cl, ⟨a15, i15, k15⟩, b15⟩
  have c_Heap_put : VS.Mf l.prog w K mg base 3 C_Heap "put" "Heap.put" s_Heap_put [.non] a_Heap_put (p_Hp_put C_Heap C_Parcel C_Sides) f16 _ := ⟨ok_Heap_put (C_Measure := C_Measure) (C_Sides := C_Sides) (C_Parcel := C_Parcel) (C_Heap := C_Heap) (C_NoNumber := C_NoNumber) (C_NoSize := C_NoSize) (C_NoMeasure := C_NoMeasure) (C_NoSide := C_NoSide) (C_NoOrder := C_NoOrder) (C_NoSides := C_NoSides) F16 T hsys c_Heap_names c_Parcel_name k_Heap k_Parcel k_Sides, F16, k_Heap.ins.cl, ⟨a16, i16, k16⟩, b16⟩
  have c_Heap_parcels : VS.Mf l.prog w K mg base 1 C_Heap "parcels" "Heap.parcels" s_Heap_parcels [] a_Heap_parcels (p_Hp_parcels C_Heap C_Parcel C_Sides) f17 _ := ⟨ok_Heap_parcels (C_Measure := C_Measure) (C_Sides := C_Sides) (C_Parcel := C_Parcel) (C_Heap := C_Heap) (C_NoNumber := C_NoNumber) (C_NoSize := C_NoSize) (C_NoMeasure := C_NoMeasure) (C_NoSide := C_NoSide) (C_NoOrder := C_NoOrder) (C_NoSides := C_NoSides) F17 T hsys k_Heap, F17, k_Heap.ins.cl, ⟨a17, i17, k17⟩, b17⟩
  have c_is_unit : VS.Cf l.prog w K mg base (L2.CX l.prog w) 2 "is_unit" s_is_unit [] a_is_unit p_is_unit f18 _ := ⟨ok_is_unit (C_Measure := C_Measure) (C_Sides := C_Sides) (C_Parcel := C_Parcel) (C_Heap := C_Heap) (C_NoNumber := C_NoNumber) (C_NoSize := C_NoSize) (C_NoMeasure := C_NoMeasure) (C_NoSide := C_NoSide) (C_NoOrder := C_NoOrder) (C_NoSides := C_NoSides) F18 T hsys c_is_name c_is_whole, F18, PySem.W.mg_of X G a18, b18⟩
  have c_are_units : VS.Cf l.prog w K mg base (L2.CX l.prog w) 3 "are_units" s_are_units [] a_are_units p_are_units f19 _ := ⟨ok_are_units (C_Measure := C_Measure) (C_Sides := C_Sides) (C_Parcel := C_Parcel) (C_Heap := C_Heap) (C_NoNumber := C_NoNumber) (C_NoSize := C_NoSize) (C_NoMeasure := C_NoMeasure) (C_NoSide := C_NoSide) (C_NoOrder := C_NoOrder) (C_NoSides := C_NoSides) F19 T hsys c_is_unit, F19, PySem.W.mg_of X G a19, b19⟩
  have c_Measure : VS.Kf l.prog w K mg base 4 "Measure" C_Measure "Measure.__init__" s_Measure___init__ [] a_Measure___init__ (p_Ms_init C_Measure) f20 _ := ⟨⟨mk20, a20, i20, kc20⟩, ok_Measure___init__ (C_Measure := C_Measure) (C_Sides := C_Sides) (C_Parcel := C_Parcel) (C_Heap := C_Heap) (C_NoNumber := C_NoNumber) (C_NoSize := C_NoSize) (C_NoMeasure := C_NoMeasure) (C_NoSide := C_NoSide) (C_NoOrder := C_NoOrder) (C_NoSides := C_NoSides) F20 T hsys c_is_name c_are_units k_Measure, F20, k_Measure.at_, b20⟩
  have c_Measure_text : VS.Mf l.prog w K mg base 3 C_Measure "text" "Measure.text" s_Measure_text [] a_Measure_text (p_Ms_text K C_Measure C_NoNumber) f21 _ := ⟨ok_Measure_text (C_Measure := C_Measure) (C_Sides := C_Sides) (C_Parcel := C_Parcel) (C_Heap := C_Heap) (C_NoNumber := C_NoNumber) (C_NoSize := C_NoSize) (C_NoMeasure := C_NoMeasure) (C_NoSide := C_NoSide) (C_NoOrder := C_NoOrder) (C_NoSides := C_NoSides) F21 T hsys c_is_whole x_NoNumber k_Measure, F21, k_Measure.ins.cl, ⟨a21, i21, k21⟩, b21⟩
  have c_Measure_sum_of : VS.Mf l.prog w K mg base 2 C_Measure "sum_of" "Measure.sum_of" s_Measure_sum_of [] a_Measure_sum_of (p_Ms_sum C_Measure) f22 _ := ⟨ok_Measure_sum_of (C_Measure := C_Measure) (C_Sides := C_Sides) (C_Parcel := C_Parcel) (C_Heap := C_Heap) (C_NoNumber := C_NoNumber) (C_NoSize := C_NoSize) (C_NoMeasure := C_NoMeasure) (C_NoSide := C_NoSide) (C_NoOrder := C_NoOrder) (C_NoSides := C_NoSides) F22 T hsys c_number_of k_Measure, F22, k_Measure.ins.cl, ⟨a22, i22, k22⟩, b22⟩
  have c_Measure_points : VS.Mf l.prog w K mg base 4 C_Measure "points" "Measure.points" s_Measure_points [] a_Measure_points (p_Ms_points K C_Measure C_NoSize) f23 _ := ⟨ok_Measure_points (C_Measure := C_Measure) (C_Sides := C_Sides) (C_Parcel := C_Parcel) (C_Heap := C_Heap) (C_NoNumber := C_NoNumber) (C_NoSize := C_NoSize) (C_NoMeasure := C_NoMeasure) (C_NoSide := C_NoSide) (C_NoOrder := C_NoOrder) (C_NoSides := C_NoSides) F23 T hsys c_words_of c_Measure_sum_of x_NoSize k_Measure, F23, k_Measure.ins.cl, ⟨a23, i23, k23⟩, b23⟩
  have c_need_measure : VS.Cf l.prog w K mg base (L2.CX l.prog w) 3 "need_measure" s_need_measure [] a_need_measure (p_need_measure K C_Measure C_NoMeasure) f24 _ := ⟨ok_need_measure (C_Measure := C_Measure) (C_Sides := C_Sides) (C_Parcel := C_Parcel) (C_Heap := C_Heap) (C_NoNumber := C_NoNumber) (C_NoSize := C_NoSize) (C_NoMeasure := C_NoMeasure) (C_NoSide := C_NoSide) (C_NoOrder := C_NoOrder) (C_NoSides := C_NoSides) F24 T hsys x_NoMeasure k_Measure, F24, PySem.W.mg_of X G a24, b24⟩
  have c_front_words : VS.Cf l.prog w K mg base (L2.CX l.prog w) 6 "front_words" s_front_words [] a_front_words (p_front_words C_Measure C_Parcel C_Sides) f25 _ := ⟨ok_front_words (C_Measure := C_Measure) (C_Sides := C_Sides) (C_Parcel := C_Parcel) (C_Heap := C_Heap) (C_NoNumber := C_NoNumber) (C_NoSize := C_NoSize) (C_NoMeasure := C_NoMeasure) (C_NoSide := C_NoSide) (C_NoOrder := C_NoOrder) (C_NoSides := C_NoSides) F25 T hsys c_Measure_text c_Sides_told c_Parcel_sides c_Parcel_name c_Parcel_wall c_Parcel_weight k_Measure k_Parcel k_Sides, F25, PySem.W.mg_of X G a25, b25⟩
  have c_parcel_row : VS.Cf l.prog w K mg base (L2.CX l.prog w) 7 "parcel_row" s_parcel_row [] a_parcel_row (p_parcel_row C_Measure C_Parcel C_Sides) f26 _ := ⟨ok_parcel_row (C_Measure := C_Measure) (C_Sides := C_Sides) (C_Parcel := C_Parcel) (C_Heap := C_Heap) (C_NoNumber := C_NoNumber) (C_NoSize := C_NoSize) (C_NoMeasure := C_NoMeasure) (C_NoSide := C_NoSide) (C_NoOrder := C_NoOrder) (C_NoSides := C_NoSides) F26 T hsys c_front_words c_Parcel_bears c_Parcel_labels k_Measure k_Parcel k_Sides, F26, PySem.W.mg_of X G a26, b26⟩
  have c_show_heap : VS.Cf l.prog w K mg base (L2.CX l.prog w) 8 "show_heap" s_show_heap [] a_show_heap (p_show_heap C_Measure C_Heap C_Parcel C_Sides) f27 _ := ⟨ok_show_heap (C_Measure := C_Measure) (C_Sides := C_Sides) (C_Parcel := C_Parcel) (C_Heap := C_Heap) (C_NoNumber := C_NoNumber) (C_NoSize := C_NoSize) (C_NoMeasure := C_NoMeasure) (C_NoSide := C_NoSide) (C_NoOrder := C_NoOrder) (C_NoSides := C_NoSides) F27 T hsys c_need_measure c_parcel_row c_Heap_parcels k_Measure k_Heap k_Parcel k_Sides, F27, PySem.W.mg_of X G a27, b27⟩
  have c_parted : VS.Cf l.prog w K mg base (L2.CX l.prog w) 1 "parted" s_parted [] a_parted p_parted75 f28 _ := ⟨ok_parted (C_Measure := C_Measure) (C_Sides := C_Sides) (C_Parcel := C_Parcel) (C_Heap := C_Heap) (C_NoNumber := C_NoNumber) (C_NoSize := C_NoSize) (C_NoMeasure := C_NoMeasure) (C_NoSide := C_NoSide) (C_NoOrder := C_NoOrder) (C_NoSides := C_NoSides) F28 T hsys, F28, PySem.W.mg_of X G a28, b28⟩
  have c_size_of : VS.Cf l.prog w K mg base (L2.CX l.prog w) 5 "size_of" s_size_of [] a_size_of (p_size_of75 C_Measure) f29 _ := ⟨ok_size_of (C_Measure := C_Measure) (C_Sides := C_Sides) (C_Parcel := C_Parcel) (C_Heap := C_Heap) (C_NoNumber := C_NoNumber) (C_NoSize := C_NoSize) (C_NoMeasure := C_NoMeasure) (C_NoSide := C_NoSide) (C_NoOrder := C_NoOrder) (C_NoSides := C_NoSides) F29 T hsys c_Measure_points x_NoSize k_Measure, F29, PySem.W.mg_of X G a29, b29⟩
  have c_front_of : VS.Cf l.prog w K mg base (L2.CX l.prog w) 6 "front_of" s_front_of [] a_front_of (p_front_of C_Measure) f30 _ := ⟨ok_front_of (C_Measure := C_Measure) (C_Sides := C_Sides) (C_Parcel := C_Parcel) (C_Heap := C_Heap) (C_NoNumber := C_NoNumber) (C_NoSize := C_NoSize) (C_NoMeasure := C_NoMeasure) (C_NoSide := C_NoSide) (C_NoOrder := C_NoOrder) (C_NoSides := C_NoSides) F30 T hsys c_is_name c_parted c_size_of k_Measure, F30, PySem.W.mg_of X G a30, b30⟩
  have c_back_of : VS.Cf l.prog w K mg base (L2.CX l.prog w) 2 "back_of" s_back_of [] a_back_of p_back_of f31 _ := ⟨ok_back_of (C_Measure := C_Measure) (C_Sides := C_Sides) (C_Parcel := C_Parcel) (C_Heap := C_Heap) (C_NoNumber := C_NoNumber) (C_NoSize := C_NoSize) (C_NoMeasure := C_NoMeasure) (C_NoSide := C_NoSide) (C_NoOrder := C_NoOrder) (C_NoSides := C_NoSides) F31 T hsys c_number_of c_is_name, F31, PySem.W.mg_of X G a31, b31⟩
  have c_parcel_told : VS.Cf l.prog w K mg base (L2.CX l.prog w) 7 "parcel_told" s_parcel_told [] a_parcel_told (p_parcel_told C_Measure) f32 _ := ⟨ok_parcel_told (C_Measure := C_Measure) (C_Sides := C_Sides) (C_Parcel := C_Parcel) (C_Heap := C_Heap) (C_NoNumber := C_NoNumber) (C_NoSize := C_NoSize) (C_NoMeasure := C_NoMeasure) (C_NoSide := C_NoSide) (C_NoOrder := C_NoOrder) (C_NoSides := C_NoSides) F32 T hsys c_words_of c_front_of c_back_of k_Measure, F32, PySem.W.mg_of X G a32, b32⟩
  have c_parcel_of : VS.Cf l.prog w K mg base (L2.CX l.prog w) 5 "parcel_of" s_parcel_of [] a_parcel_of (p_parcel_of C_Parcel C_Sides) f33 _ := ⟨ok_parcel_of (C_Measure := C_Measure) (C_Sides := C_Sides) (C_Parcel := C_Parcel) (C_Heap := C_Heap) (C_NoNumber := C_NoNumber) (C_NoSize := C_NoSize) (C_NoMeasure := C_NoMeasure) (C_NoSide := C_NoSide) (C_NoOrder := C_NoOrder) (C_NoSides := C_NoSides) F33 T hsys c_Sides c_Parcel k_Sides k_Parcel, F33, PySem.W.mg_of X G a33, b33⟩
  obtain ⟨d_Heap_put2⟩ := VS.bdN (ps := a_Heap_put) F16 2 0 (by decide) rfl (fun T kV doc pm an cdv ct us its h1 h2 => match us, its, h1, h2 with | [_, _], [_], _, _ => ⟨_, rfl, rfl⟩)
  have c_read_heap : VS.Cf l.prog w K mg base (L2.CX l.prog w) 8 "read_heap" s_read_heap [] a_read_heap (p_read_heap C_Measure C_Heap C_Parcel C_Sides) f34 _ := ⟨ok_read_heap (C_Measure := C_Measure) (C_Sides := C_Sides) (C_Parcel := C_Parcel) (C_Heap := C_Heap) (C_NoNumber := C_NoNumber) (C_NoSize := C_NoSize) (C_NoMeasure := C_NoMeasure) (C_NoSide := C_NoSide) (C_NoOrder := C_NoOrder) (C_NoSides := C_NoSides) F34 T hsys c_need_measure c_Heap c_parcel_told c_Heap_put d_Heap_put2 c_parcel_of k_Measure k_Heap k_Parcel k_Sides, F34, PySem.W.mg_of X G a34, b34⟩
  have c_heap_retold : VS.Cf l.prog w K mg base (L2.CX l.prog w) 9 "heap_retold" s_heap_retold [] a_heap_retold (p_heap_retold C_Measure C_Heap C_Parcel C_Sides) f35 _ := ⟨ok_heap_retold (C_Measure := C_Measure) (C_Sides := C_Sides) (C_Parcel := C_Parcel) (C_Heap := C_Heap) (C_NoNumber := C_NoNumber) (C_NoSize := C_NoSize) (C_NoMeasure := C_NoMeasure) (C_NoSide := C_NoSide) (C_NoOrder := C_NoOrder) (C_NoSides := C_NoSides) F35 T hsys c_read_heap c_show_heap k_Measure k_Heap k_Parcel k_Sides, F35, PySem.W.mg_of X G a35, b35⟩
  have c_is_order : VS.Cf l.prog w K mg base (L2.CX l.prog w) 2 "is_order" s_is_order [] a_is_order (p_is_order K) f36 _ := ⟨ok_is_order (C_Measure := C_Measure) (C_Sides := C_Sides) (C_Parcel := C_Parcel) (C_Heap := C_Heap) (C_NoNumber := C_NoNumber) (C_NoSize := C_NoSize) (C_NoMeasure := C_NoMeasure) (C_NoSide := C_NoSide) (C_NoOrder := C_NoOrder) (C_NoSides := C_NoSides) F36 T hsys c_is_whole, F36, PySem.W.mg_of X G a36, b36⟩
  have c_Sides_turned : VS.Mf l.prog w K mg base 5 C_Sides "turned" "Sides.turned" s_Sides_turned [] a_Sides_turned (p_turned K C_Sides C_NoOrder) f37 _ := ⟨ok_Sides_turned (C_Measure := C_Measure) (C_Sides := C_Sides) (C_Parcel := C_Parcel) (C_Heap := C_Heap) (C_NoNumber := C_NoNumber) (C_NoSize := C_NoSize) (C_NoMeasure := C_NoMeasure) (C_NoSide := C_NoSide) (C_NoOrder := C_NoOrder) (C_NoSides := C_NoSides) F37 T hsys c_is_order c_Sides x_NoOrder k_Sides, F37, k_Sides.ins.cl, ⟨a37, i37, k37⟩, b37⟩
  have c_Sides_orders_to : VS.Mf l.prog w K mg base 6 C_Sides "orders_to" "Sides.orders_to" s_Sides_orders_to [] a_Sides_orders_to (p_orders_to K C_Sides C_NoSides) f38 _ := ⟨ok_Sides_orders_to (C_Measure := C_Measure) (C_Sides := C_Sides) (C_Parcel := C_Parcel) (C_Heap := C_Heap) (C_NoNumber := C_NoNumber) (C_NoSize := C_NoSize) (C_NoMeasure := C_NoMeasure) (C_NoSide := C_NoSide) (C_NoOrder := C_NoOrder) (C_NoSides := C_NoSides) F38 T hsys c_Sides_turned c_Sides_told x_NoSides k_Sides, F38, k_Sides.ins.cl, ⟨a38, i38, k38⟩, b38⟩
  have c_Parcel_numbers : VS.Mf l.prog w K mg base 1 C_Parcel "numbers" "Parcel.numbers" s_Parcel_numbers [] a_Parcel_numbers (p_Pc_numbers C_Parcel C_Sides) f39 _ := ⟨ok_Parcel_numbers (C_Measure := C_Measure) (C_Sides := C_Sides) (C_Parcel := C_Parcel) (C_Heap := C_Heap) (C_NoNumber := C_NoNumber) (C_NoSize := C_NoSize) (C_NoMeasure := C_NoMeasure) (C_NoSide := C_NoSide) (C_NoOrder := C_NoOrder) (C_NoSides := C_NoSides) F39 T hsys k_Parcel k_Sides, F39, k_Parcel.ins.cl, ⟨a39, i39, k39⟩, b39⟩
  have c_Parcel_kind : VS.Mf l.prog w K mg base 1 C_Parcel "kind" "Parcel.kind" s_Parcel_kind [] a_Parcel_kind (p_Pc_kind C_Parcel C_Sides) f40 _ := ⟨ok_Parcel_kind (C_Measure := C_Measure) (C_Sides := C_Sides) (C_Parcel := C_Parcel) (C_Heap := C_Heap) (C_NoNumber := C_NoNumber) (C_NoSize := C_NoSize) (C_NoMeasure := C_NoMeasure) (C_NoSide := C_NoSide) (C_NoOrder := C_NoOrder) (C_NoSides := C_NoSides) F40 T hsys k_Parcel k_Sides, F40, k_Parcel.ins.cl, ⟨a40, i40, k40⟩, b40⟩
  have c_Parcel_lies_like : VS.Mf l.prog w K mg base 7 C_Parcel "lies_like" "Parcel.lies_like" s_Parcel_lies_like [] a_Parcel_lies_like (p_Pc_lies C_Parcel C_Sides) f41 _ := ⟨ok_Parcel_lies_like (C_Measure := C_Measure) (C_Sides := C_Sides) (C_Parcel := C_Parcel) (C_Heap := C_Heap) (C_NoNumber := C_NoNumber) (C_NoSize := C_NoSize) (C_NoMeasure := C_NoMeasure) (C_NoSide := C_NoSide) (C_NoOrder := C_NoOrder) (C_NoSides := C_NoSides) F41 T hsys c_Sides_orders_to k_Parcel k_Sides, F41, k_Parcel.ins.cl, ⟨a41, i41, k41⟩, b41⟩
  have c_Parcel___eq__ : VS.Mf l.prog w K mg base 8 C_Parcel "__eq__" "Parcel.__eq__" s_Parcel___eq__ [] a_Parcel___eq__ (p_Pc_eq K C_Parcel C_Sides) f42 _ := ⟨ok_Parcel___eq__ (C_Measure := C_Measure) (C_Sides := C_Sides) (C_Parcel := C_Parcel) (C_Heap := C_Heap) (C_NoNumber := C_NoNumber) (C_NoSize := C_NoSize) (C_NoMeasure := C_NoMeasure) (C_NoSide := C_NoSide) (C_NoOrder := C_NoOrder) (C_NoSides := C_NoSides) F42 T hsys c_Parcel_numbers c_Parcel_kind c_Parcel_lies_like k_Parcel k_Sides, F42, k_Parcel.ins.cl, ⟨a42, i42, k42⟩, b42⟩
  have c_Heap___len__ : VS.Mf l.prog w K mg base 1 C_Heap "__len__" "Heap.__len__" s_Heap___len__ [] a_Heap___len__ (p_Hp_len C_Heap C_Parcel C_Sides) f43 _ := ⟨ok_Heap___len__ (C_Measure := C_Measure) (C_Sides := C_Sides) (C_Parcel := C_Parcel) (C_Heap := C_Heap) (C_NoNumber := C_NoNumber) (C_NoSize := C_NoSize) (C_NoMeasure := C_NoMeasure) (C_NoSide := C_NoSide) (C_NoOrder := C_NoOrder) (C_NoSides := C_NoSides) F43 T hsys k_Heap, F43, k_Heap.ins.cl, ⟨a43, i43, k43⟩, b43⟩
  have c_Heap___eq__ : VS.Mf l.prog w K mg base 11 C_Heap "__eq__" "Heap.__eq__" s_Heap___eq__ [] a_Heap___eq__ (p_Hp_eq74 C_Heap C_Parcel C_Sides) f44 _ := ⟨ok_Heap___eq__ (C_Measure := C_Measure) (C_Sides := C_Sides) (C_Parcel := C_Parcel) (C_Heap := C_Heap) (C_NoNumber := C_NoNumber) (C_NoSize := C_NoSize) (C_NoMeasure := C_NoMeasure) (C_NoSide := C_NoSide) (C_NoOrder := C_NoOrder) (C_NoSides := C_NoSides) F44 T hsys c_Heap_names c_Parcel___eq__ k_Heap k_Parcel k_Sides, F44, k_Heap.ins.cl, ⟨a44, i44, k44⟩, b44⟩
  have c__law_cell : VS.Cf l.prog w K mg base (L2.CX l.prog w) 1 "_law_cell" s__law_cell [] a__law_cell p__law_cell f45 _ := ⟨ok__law_cell (C_Measure := C_Measure) (C_Sides := C_Sides) (C_Parcel := C_Parcel) (C_Heap := C_Heap) (C_NoNumber := C_NoNumber) (C_NoSize := C_NoSize) (C_NoMeasure := C_NoMeasure) (C_NoSide := C_NoSide) (C_NoOrder := C_NoOrder) (C_NoSides := C_NoSides) F45 T hsys, F45, PySem.W.mg_of X G a45, b45⟩
  have c__law_purse : VS.Cf l.prog w K mg base (L2.CX l.prog w) 1 "_law_purse" s__law_purse [] a__law_purse p__law_purse f46 _ := ⟨ok__law_purse (C_Measure := C_Measure) (C_Sides := C_Sides) (C_Parcel := C_Parcel) (C_Heap := C_Heap) (C_NoNumber := C_NoNumber) (C_NoSize := C_NoSize) (C_NoMeasure := C_NoMeasure) (C_NoSide := C_NoSide) (C_NoOrder := C_NoOrder) (C_NoSides := C_NoSides) F46 T hsys, F46, PySem.W.mg_of X G a46, b46⟩
  have c__law_take : VS.Cf l.prog w K mg base (L2.CX l.prog w) 1 "_law_take" s__law_take [] a__law_take p__law_take f47 _ := ⟨ok__law_take (C_Measure := C_Measure) (C_Sides := C_Sides) (C_Parcel := C_Parcel) (C_Heap := C_Heap) (C_NoNumber := C_NoNumber) (C_NoSize := C_NoSize) (C_NoMeasure := C_NoMeasure) (C_NoSide := C_NoSide) (C_NoOrder := C_NoOrder) (C_NoSides := C_NoSides) F47 T hsys, F47, PySem.W.mg_of X G a47, b47⟩
  have c__law_names : VS.Cf l.prog w K mg base (L2.CX l.prog w) 2 "_law_names" s__law_names [] a__law_names p__law_names74 f48 _ := ⟨ok__law_names (C_Measure := C_Measure) (C_Sides := C_Sides) (C_Parcel := C_Parcel) (C_Heap := C_Heap) (C_NoNumber := C_NoNumber) (C_NoSize := C_NoSize) (C_NoMeasure := C_NoMeasure) (C_NoSide := C_NoSide) (C_NoOrder := C_NoOrder) (C_NoSides := C_NoSides) F48 T hsys c__law_take, F48, PySem.W.mg_of X G a48, b48⟩
  have c__law_three : VS.Cf l.prog w K mg base (L2.CX l.prog w) 2 "_law_three" s__law_three [] a__law_three p__law_three74 f49 _ := ⟨ok__law_three (C_Measure := C_Measure) (C_Sides := C_Sides) (C_Parcel := C_Parcel) (C_Heap := C_Heap) (C_NoNumber := C_NoNumber) (C_NoSize := C_NoSize) (C_NoMeasure := C_NoMeasure) (C_NoSide := C_NoSide) (C_NoOrder := C_NoOrder) (C_NoSides := C_NoSides) F49 T hsys c__law_take, F49, PySem.W.mg_of X G a49, b49⟩
  have c__law_units : VS.Cf l.prog w K mg base (L2.CX l.prog w) 2 "_law_units" s__law_units [] a__law_units p__law_units74 f50 _ := ⟨ok__law_units (C_Measure := C_Measure) (C_Sides := C_Sides) (C_Parcel := C_Parcel) (C_Heap := C_Heap) (C_NoNumber := C_NoNumber) (C_NoSize := C_NoSize) (C_NoMeasure := C_NoMeasure) (C_NoSide := C_NoSide) (C_NoOrder := C_NoOrder) (C_NoSides := C_NoSides) F50 T hsys c__law_take, F50, PySem.W.mg_of X G a50, b50⟩
  have c__law_size : VS.Cf l.prog w K mg base (L2.CX l.prog w) 1 "_law_size" s__law_size [] a__law_size p_size75 f51 _ := ⟨ok__law_size (C_Measure := C_Measure) (C_Sides := C_Sides) (C_Parcel := C_Parcel) (C_Heap := C_Heap) (C_NoNumber := C_NoNumber) (C_NoSize := C_NoSize) (C_NoMeasure := C_NoMeasure) (C_NoSide := C_NoSide) (C_NoOrder := C_NoOrder) (C_NoSides := C_NoSides) F51 T hsys, F51, PySem.W.mg_of X G a51, b51⟩
  have c__law_loose : VS.Cf l.prog w K mg base (L2.CX l.prog w) 2 "_law_loose" s__law_loose [] a__law_loose p_loose74 f52 _ := ⟨ok__law_loose (C_Measure := C_Measure) (C_Sides := C_Sides) (C_Parcel := C_Parcel) (C_Heap := C_Heap) (C_NoNumber := C_NoNumber) (C_NoSize := C_NoSize) (C_NoMeasure := C_NoMeasure) (C_NoSide := C_NoSide) (C_NoOrder := C_NoOrder) (C_NoSides := C_NoSides) F52 T hsys c__law_take, F52, PySem.W.mg_of X G a52, b52⟩
  have c__law_row : VS.Cf l.prog w K mg base (L2.CX l.prog w) 3 "_law_row" s__law_row [] a__law_row p_row74 f53 _ := ⟨ok__law_row (C_Measure := C_Measure) (C_Sides := C_Sides) (C_Parcel := C_Parcel) (C_Heap := C_Heap) (C_NoNumber := C_NoNumber) (C_NoSize := C_NoSize) (C_NoMeasure := C_NoMeasure) (C_NoSide := C_NoSide) (C_NoOrder := C_NoOrder) (C_NoSides := C_NoSides) F53 T hsys c__law_take c__law_three, F53, PySem.W.mg_of X G a53, b53⟩
  have c__law_parcel : VS.Cf l.prog w K mg base (L2.CX l.prog w) 5 "_law_parcel" s__law_parcel [] a__law_parcel (p_parcel74 C_Parcel C_Sides) f54 _ := ⟨ok__law_parcel (C_Measure := C_Measure) (C_Sides := C_Sides) (C_Parcel := C_Parcel) (C_Heap := C_Heap) (C_NoNumber := C_NoNumber) (C_NoSize := C_NoSize) (C_NoMeasure := C_NoMeasure) (C_NoSide := C_NoSide) (C_NoOrder := C_NoOrder) (C_NoSides := C_NoSides) F54 T hsys c_Sides c_Parcel k_Sides k_Parcel, F54, PySem.W.mg_of X G a54, b54⟩
  have c__law_heap : VS.Cf l.prog w K mg base (L2.CX l.prog w) 6 "_law_heap" s__law_heap [] a__law_heap (p_heap74 C_Heap C_Parcel C_Sides) f55 _ := ⟨ok__law_heap (C_Measure := C_Measure) (C_Sides := C_Sides) (C_Parcel := C_Parcel) (C_Heap := C_Heap) (C_NoNumber := C_NoNumber) (C_NoSize := C_NoSize) (C_NoMeasure := C_NoMeasure) (C_NoSide := C_NoSide) (C_NoOrder := C_NoOrder) (C_NoSides := C_NoSides) F55 T hsys c_Heap c_Heap_put d_Heap_put2 c__law_parcel k_Heap k_Parcel k_Sides, F55, PySem.W.mg_of X G a55, b55⟩
  have c__law_written : VS.Cf l.prog w K mg base (L2.CX l.prog w) 2 "_law_written" s__law_written [] a__law_written p_written74 f56 _ := ⟨ok__law_written (C_Measure := C_Measure) (C_Sides := C_Sides) (C_Parcel := C_Parcel) (C_Heap := C_Heap) (C_NoNumber := C_NoNumber) (C_NoSize := C_NoSize) (C_NoMeasure := C_NoMeasure) (C_NoSide := C_NoSide) (C_NoOrder := C_NoOrder) (C_NoSides := C_NoSides) F56 T hsys c__law_size, F56, PySem.W.mg_of X G a56, b56⟩
  have c__law_loose_text : VS.Cf l.prog w K mg base (L2.CX l.prog w) 3 "_law_loose_text" s__law_loose_text [] a__law_loose_text p_loose_text74 f57 _ := ⟨ok__law_loose_text (C_Measure := C_Measure) (C_Sides := C_Sides) (C_Parcel := C_Parcel) (C_Heap := C_Heap) (C_NoNumber := C_NoNumber) (C_NoSize := C_NoSize) (C_NoMeasure := C_NoMeasure) (C_NoSide := C_NoSide) (C_NoOrder := C_NoOrder) (C_NoSides := C_NoSides) F57 T hsys c__law_loose c__law_take, F57, PySem.W.mg_of X G a57, b57⟩
  have c__law_is_heap : VS.Cf l.prog w K mg base (L2.CX l.prog w) 13 "_law_is_heap" s__law_is_heap [] a__law_is_heap (p_is_heap74 C_Heap C_Parcel C_Sides) f58 _ := ⟨ok__law_is_heap (C_Measure := C_Measure) (C_Sides := C_Sides) (C_Parcel := C_Parcel) (C_Heap := C_Heap) (C_NoNumber := C_NoNumber) (C_NoSize := C_NoSize) (C_NoMeasure := C_NoMeasure) (C_NoSide := C_NoSide) (C_NoOrder := C_NoOrder) (C_NoSides := C_NoSides) F58 T hsys c_Heap_names c_Heap___len__ c_Heap_parcels c_Parcel_name c_Parcel_sides c_Sides_told c_Parcel_wall c_Parcel_weight c_Parcel_bears c_Parcel_labels c__law_parcel c_Parcel___eq__ c__law_heap c_Heap___eq__ k_Heap k_Parcel k_Sides, F58, PySem.W.mg_of X G a58, b58⟩
  have c__law_other_units : VS.Cf l.prog w K mg base (L2.CX l.prog w) 3 "_law_other_units" s__law_other_units [] a__law_other_units p_other74 f59 _ := ⟨ok__law_other_units (C_Measure := C_Measure) (C_Sides := C_Sides) (C_Parcel := C_Parcel) (C_Heap := C_Heap) (C_NoNumber := C_NoNumber) (C_NoSize := C_NoSize) (C_NoMeasure := C_NoMeasure) (C_NoSide := C_NoSide) (C_NoOrder := C_NoOrder) (C_NoSides := C_NoSides) F59 T hsys c__law_units c__law_take, F59, PySem.W.mg_of X G a59, b59⟩
  exact ok_law (C_Measure := C_Measure) (C_Sides := C_Sides) (C_Parcel := C_Parcel) (C_Heap := C_Heap) (C_NoNumber := C_NoNumber) (C_NoSize := C_NoSize) (C_NoMeasure := C_NoMeasure) (C_NoSide := C_NoSide) (C_NoOrder := C_NoOrder) (C_NoSides := C_NoSides) F60 T hsys c__law_cell c__law_purse c__law_take c__law_units c__law_other_units c__law_row c__law_names c__law_loose_text c_Measure c_heap_retold c__law_written c_read_heap c__law_is_heap c_show_heap k_Measure k_Heap k_Parcel k_Sides
end LW
open PySem PySem.W PyProof.Rows in
set_option maxRecDepth 100000 in
set_option maxHeartbeats 0 in
theorem PySem.Challenge.cw_boxinbox_k74_whole_heaps_retold_holds : PySem.Challenge.rw_boxinbox_k74_whole_heaps_retold.Holds := by
  w_on; o_law; k_head; (case hw => w_witness2)
  k_fill
  refine VS.walk_val (l := PySem.Challenge.rw_boxinbox_k74_whole_heaps_retold) (n := 63) (k := 15) (x := "_law_script") (CX := fun w => L2.CX (PySem.Challenge.rw_boxinbox_k74_whole_heaps_retold).prog w) (p := fun _ => LW.p_law) rfl (by decide) rfl ⟨rfl, by decide, by decide⟩ (by first | rfl | decide +kernel) (fun w h Y => PySem.W.kIn_of Y) ?F (fun _ ns h => ⟨ns, rfl, h, fun _ => rfl⟩) (fun _ _ _ _ _ z => by obtain ⟨_, _, _, _, _, _, _, _, _, _, _, _, q⟩ := z; exact q)
  case F =>
    intro w mg fa h KX G hmg
    refine' LW.all_mk KX G hmg ?aKMeasure ?pgKMeasure ?hdKMeasure ?poKMeasure ?saKMeasure ?haKMeasure ?hmKMeasure ?icKMeasure ?tcKMeasure ?nKMeasure_called ?nKMeasure_parts ?zKMeasure_int ?zKMeasure_bool ?zKMeasure_str ?zKMeasure_NoneType ?zKMeasure_list ?zKMeasure_tuple ?zKMeasure_dict ?mKMeasure_0 ?mKMeasure_1 ?mKMeasure_2 ?aKSides ?pgKSides ?hdKSides ?poKSides ?saKSides ?haKSides ?hmKSides ?icKSides ?tcKSides ?nKSides_three ?zKSides_int ?zKSides_bool ?zKSides_str ?zKSides_NoneType ?zKSides_list ?zKSides_tuple ?zKSides_dict ?aKParcel ?pgKParcel ?hdKParcel ?poKParcel ?saKParcel ?haKParcel ?hmKParcel ?icKParcel ?tcKParcel ?nKParcel_called ?nKParcel_outside ?nKParcel_thick ?nKParcel_heavy ?nKParcel_strong ?nKParcel_marks ?zKParcel_int ?zKParcel_bool ?zKParcel_str ?zKParcel_NoneType ?zKParcel_list ?zKParcel_tuple ?zKParcel_dict ?mKParcel_0 ?mKParcel_1 ?aKHeap ?pgKHeap ?hdKHeap ?poKHeap ?saKHeap ?haKHeap ?hmKHeap ?icKHeap ?tcKHeap ?nKHeap_held ?hnO ?htkO ?aXNoNumber ?xXNoNumber ?saXNoNumber ?gaXNoNumber ?ggXNoNumber ?noXNoNumber ?exXNoNumber ?tyXNoNumber ?kcXNoNumber ?hdXNoNumber ?iXNoNumber ?tXNoNumber ?lXNoNumber ?cXNoNumber ?kXNoNumber ?aXNoSize ?xXNoSize ?saXNoSize ?gaXNoSize ?ggXNoSize ?noXNoSize ?exXNoSize ?tyXNoSize ?kcXNoSize ?hdXNoSize ?iXNoSize ?tXNoSize ?lXNoSize ?cXNoSize ?kXNoSize ?aXNoMeasure ?xXNoMeasure ?saXNoMeasure ?gaXNoMeasure ?ggXNoMeasure ?noXNoMeasure ?exXNoMeasure ?tyXNoMeasure ?kcXNoMeasure ?hdXNoMeasure ?iXNoMeasure ?tXNoMeasure ?lXNoMeasure ?cXNoMeasure ?kXNoMeasure ?aXNoSide ?xXNoSide ?saXNoSide ?gaXNoSide ?ggXNoSide ?noXNoSide ?exXNoSide ?tyXNoSide ?kcXNoSide ?hdXNoSide ?iXNoSide ?tXNoSide ?lXNoSide ?cXNoSide ?kXNoSide ?aXNoOrder ?xXNoOrder ?saXNoOrder ?gaXNoOrder ?ggXNoOrder ?noXNoOrder ?exXNoOrder ?tyXNoOrder ?kcXNoOrder ?hdXNoOrder ?iXNoOrder ?tXNoOrder ?lXNoOrder ?cXNoOrder ?kXNoOrder ?aXNoSides ?xXNoSides ?saXNoSides ?gaXNoSides ?ggXNoSides ?noXNoSides ?exXNoSides ?tyXNoSides ?kcXNoSides ?hdXNoSides ?iXNoSides ?tXNoSides ?lXNoSides ?cXNoSides ?kXNoSides ?a0 ?l0 ?c0 ?k0 ?a1 ?l1 ?c1 ?k1 ?a2 ?l2 ?c2 ?k2 ?a3 ?l3 ?c3 ?k3 ?a4 ?i4 ?l4 ?c4 ?k4 ?mk4 ?kc4 ?a5 ?i5 ?l5 ?c5 ?k5 ?a6 ?l6 ?c6 ?k6 ?a7 ?i7 ?l7 ?c7 ?k7 ?t7 ?mk7 ?kc7 ?a8 ?i8 ?l8 ?c8 ?k8 ?a9 ?i9 ?l9 ?c9 ?k9 ?a10 ?i10 ?l10 ?c10 ?k10 ?a11 ?i11 ?l11 ?c11 ?k11 ?a12 ?i12 ?l12 ?c12 ?k12 ?a13 ?i13 ?l13 ?c13 ?k13 ?a14 ?i14 ?l14 ?c14 ?k14 ?mk14 ?kc14 ?a15 ?i15 ?l15 ?c15 ?k15 ?a16 ?i16 ?l16 ?c16 ?k16 ?t16 ?a17 ?i17 ?l17 ?c17 ?k17 ?a18 ?l18 ?c18 ?k18 ?a19 ?l19 ?c19 ?k19 ?a20 ?i20 ?l20 ?c20 ?k20 ?mk20 ?kc20 ?a21 ?i21 ?l21 ?c21 ?k21 ?a22 ?i22 ?l22 ?c22 ?k22 ?a23 ?i23 ?l23 ?c23 ?k23 ?a24 ?l24 ?c24 ?k24 ?a25 ?l25 ?c25 ?k25 ?a26 ?l26 ?c26 ?k26 ?a27 ?l27 ?c27 ?k27 ?a28 ?l28 ?c28 ?k28 ?a29 ?l29 ?c29 ?k29 ?a30 ?l30 ?c30 ?k30 ?a31 ?l31 ?c31 ?k31 ?a32 ?l32 ?c32 ?k32 ?a33 ?l33 ?c33 ?k33 ?a34 ?l34 ?c34 ?k34 ?a35 ?l35 ?c35 ?k35 ?a36 ?l36 ?c36 ?k36 ?a37 ?i37 ?l37 ?c37 ?k37 ?a38 ?i38 ?l38 ?c38 ?k38 ?a39 ?i39 ?l39 ?c39 ?k39 ?a40 ?i40 ?l40 ?c40 ?k40 ?a41 ?i41 ?l41 ?c41 ?k41 ?a42 ?i42 ?l42 ?c42 ?k42 ?a43 ?i43 ?l43 ?c43 ?k43 ?a44 ?i44 ?l44 ?c44 ?k44 ?a45 ?l45 ?c45 ?k45 ?a46 ?l46 ?c46 ?k46 ?a47 ?l47 ?c47 ?k47 ?a48 ?l48 ?c48 ?k48 ?a49 ?l49 ?c49 ?k49 ?a50 ?l50 ?c50 ?k50 ?a51 ?l51 ?c51 ?k51 ?a52 ?l52 ?c52 ?k52 ?a53 ?l53 ?c53 ?k53 ?a54 ?l54 ?c54 ?k54 ?a55 ?l55 ?c55 ?k55 ?a56 ?l56 ?c56 ?k56 ?a57 ?l57 ?c57 ?k57 ?a58 ?l58 ?c58 ?k58 ?a59 ?l59 ?c59 ?k59 ?a60 ?l60 ?c60 ?k60 ?z_all ?z_any ?z_bool ?z_divmod ?z_int ?z_isinstance ?z_len ?z_list ?z_max ?z_min ?z_range ?z_repr ?z_reversed ?z_set ?z_str ?z_tuple ?z_zip ?z_FIGURES ?z_LETTERS ?z_MOST_PARCELS ?z_MOST_POINTS ?z_MOST_SIDE ?z_MOST_SIZE ?z_MOST_WALL ?z_MOST_WEIGHT ?icNoSize ?sbNoSize_NoSize ?z_KEPT ?kM_ ?z_LABELS ?kL_ ?z_MARKS ?kR_ ?z_ORDERS ?kO ?kt0_ ?kt1_ ?kt2_ ?kt3_ ?kt4_ ?kt5_
    (case aKMeasure => k_is)
    (case aKSides => k_is)
    (case aKParcel => k_is)
    (case aKHeap => k_is)
    (case pgKMeasure => k_is)
    (case hdKMeasure => k_is)
    (case poKMeasure => k_is)
    (case saKMeasure => k_is)
    (case haKMeasure => k_is)
    (case hmKMeasure => k_is)
    (case icKMeasure => k_is)
    (case tcKMeasure => k_is)
    (case nKMeasure_called => k_is)
    (case nKMeasure_parts => k_is)
    (case zKMeasure_int => k_is)
    (case zKMeasure_bool => k_is)
    (case zKMeasure_str => k_is)
    (case zKMeasure_NoneType => k_is)
    (case zKMeasure_list => k_is)
    (case zKMeasure_tuple => k_is)
    (case zKMeasure_dict => k_is)
    (case mKMeasure_0 => k_is)
    (case mKMeasure_1 => k_is)
    (case mKMeasure_2 => k_is)
    (case pgKSides => k_is)
    (case hdKSides => k_is)
    (case poKSides => k_is)
    (case saKSides => k_is)
    (case haKSides => k_is)
    (case hmKSides => k_is)
    (case icKSides => k_is)
    (case tcKSides => k_is)
    (case nKSides_three => k_is)
    (case zKSides_int => k_is)
    (case zKSides_bool => k_is)
    (case zKSides_str => k_is)
    (case zKSides_NoneType => k_is)
    (case zKSides_list => k_is)
    (case zKSides_tuple => k_is)
    (case zKSides_dict => k_is)
    (case pgKParcel => k_is)
    (case hdKParcel => k_is)
    (case poKParcel => k_is)
    (case saKParcel => k_is)
    (case haKParcel => k_is)
    (case hmKParcel => k_is)
    (case icKParcel => k_is)
    (case tcKParcel => k_is)
    (case nKParcel_called => k_is)
    (case nKParcel_outside => k_is)
    (case nKParcel_thick => k_is)
    (case nKParcel_heavy => k_is)
    (case nKParcel_strong => k_is)
    (case nKParcel_marks => k_is)
    (case zKParcel_int => k_is)
    (case zKParcel_bool => k_is)
    (case zKParcel_str => k_is)
    (case zKParcel_NoneType => k_is)
    (case zKParcel_list => k_is)
    (case zKParcel_tuple => k_is)
    (case zKParcel_dict => k_is)
    (case mKParcel_0 => k_is)
    (case mKParcel_1 => k_is)
    (case pgKHeap => k_is)
    (case hdKHeap => k_is)
    (case poKHeap => k_is)
    (case saKHeap => k_is)
    (case haKHeap => k_is)
    (case hmKHeap => k_is)
    (case icKHeap => k_is)
    (case tcKHeap => k_is)
    (case nKHeap_held => k_is)
    (case hnO => k_is)
    (case htkO => k_is)
    (case aXNoNumber => k_is)
    (case xXNoNumber => k_is)
    (case saXNoNumber => k_is)
    (case gaXNoNumber => k_is)
    (case ggXNoNumber => k_is)
    (case noXNoNumber => k_is)
    (case exXNoNumber => k_is)
    (case tyXNoNumber => k_is)
    (case kcXNoNumber => k_is)
    (case hdXNoNumber => k_is)
    (case iXNoNumber => k_is)
    (case tXNoNumber => k_is)
    (case lXNoNumber => k_is)
    (case cXNoNumber => k_is)
    (case kXNoNumber => k_is)
    (case aXNoSize => k_is)
    (case xXNoSize => k_is)
    (case saXNoSize => k_is)
    (case gaXNoSize => k_is)
    (case ggXNoSize => k_is)
    (case noXNoSize => k_is)
    (case exXNoSize => k_is)
    (case tyXNoSize => k_is)
    (case kcXNoSize => k_is)
    (case hdXNoSize => k_is)
    (case iXNoSize => k_is)
    (case tXNoSize => k_is)
    (case lXNoSize => k_is)
    (case cXNoSize => k_is)
    (case kXNoSize => k_is)
    (case aXNoMeasure => k_is)
    (case xXNoMeasure => k_is)
    (case saXNoMeasure => k_is)
    (case gaXNoMeasure => k_is)
    (case ggXNoMeasure => k_is)
    (case noXNoMeasure => k_is)
    (case exXNoMeasure => k_is)
    (case tyXNoMeasure => k_is)
    (case kcXNoMeasure => k_is)
    (case hdXNoMeasure => k_is)
    (case iXNoMeasure => k_is)
    (case tXNoMeasure => k_is)
    (case lXNoMeasure => k_is)
    (case cXNoMeasure => k_is)
    (case kXNoMeasure => k_is)
    (case aXNoSide => k_is)
    (case xXNoSide => k_is)
    (case saXNoSide => k_is)
    (case gaXNoSide => k_is)
    (case ggXNoSide => k_is)
    (case noXNoSide => k_is)
    (case exXNoSide => k_is)
    (case tyXNoSide => k_is)
    (case kcXNoSide => k_is)
    (case hdXNoSide => k_is)
    (case iXNoSide => k_is)
    (case tXNoSide => k_is)
    (case lXNoSide => k_is)
    (case cXNoSide => k_is)
    (case kXNoSide => k_is)
    (case aXNoOrder => k_is)
    (case xXNoOrder => k_is)
    (case saXNoOrder => k_is)
    (case gaXNoOrder => k_is)
    (case ggXNoOrder => k_is)
    (case noXNoOrder => k_is)
    (case exXNoOrder => k_is)
    (case tyXNoOrder => k_is)
    (case kcXNoOrder => k_is)
    (case hdXNoOrder => k_is)
    (case iXNoOrder => k_is)
    (case tXNoOrder => k_is)
    (case lXNoOrder => k_is)
    (case cXNoOrder => k_is)
    (case kXNoOrder => k_is)
    (case aXNoSides => k_is)
    (case xXNoSides => k_is)
    (case saXNoSides => k_is)
    (case gaXNoSides => k_is)
    (case ggXNoSides => k_is)
    (case noXNoSides => k_is)
    (case exXNoSides => k_is)
    (case tyXNoSides => k_is)
    (case kcXNoSides => k_is)
    (case hdXNoSides => k_is)
    (case iXNoSides => k_is)
    (case tXNoSides => k_is)
    (case lXNoSides => k_is)
    (case cXNoSides => k_is)
    (case kXNoSides => k_is)
    (case a0 => k_is)
    (case l0 => k_is)
    (case c0 => k_is)
    (case k0 => k_is)
    (case a1 => k_is)
    (case l1 => k_is)
    (case c1 => k_is)
    (case k1 => k_is)
    (case a2 => k_is)
    (case l2 => k_is)
    (case c2 => k_is)
    (case k2 => k_is)
    (case a3 => k_is)
    (case l3 => k_is)
    (case c3 => k_is)
    (case k3 => k_is)
    (case a4 => k_is)
    (case i4 => k_is)
    (case l4 => k_is)
    (case c4 => k_is)
    (case k4 => k_is)
    (case mk4 => k_is)
    (case kc4 => k_is)
    (case a5 => k_is)
    (case i5 => k_is)
    (case l5 => k_is)
    (case c5 => k_is)
    (case k5 => k_is)
    (case a6 => k_is)
    (case l6 => k_is)
    (case c6 => k_is)
    (case k6 => k_is)
    (case a7 => k_is)
    (case i7 => k_is)
    (case l7 => k_is)
    (case c7 => k_is)
    (case k7 => k_is)
    (case t7 => k_is)
    (case mk7 => k_is)
    (case kc7 => k_is)
    (case a8 => k_is)
    (case i8 => k_is)
    (case l8 => k_is)
    (case c8 => k_is)
    (case k8 => k_is)
    (case a9 => k_is)
    (case i9 => k_is)
    (case l9 => k_is)
    (case c9 => k_is)
    (case k9 => k_is)
    (case a10 => k_is)
    (case i10 => k_is)
    (case l10 => k_is)
    (case c10 => k_is)
    (case k10 => k_is)
    (case a11 => k_is)
    (case i11 => k_is)
    (case l11 => k_is)
    (case c11 => k_is)
    (case k11 => k_is)
    (case a12 => k_is)
    (case i12 => k_is)
    (case l12 => k_is)
    (case c12 => k_is)
    (case k12 => k_is)
    (case a13 => k_is)
    (case i13 => k_is)
    (case l13 => k_is)
    (case c13 => k_is)
    (case k13 => k_is)
    (case a14 => k_is)
    (case i14 => k_is)
    (case l14 => k_is)
    (case c14 => k_is)
    (case k14 => k_is)
    (case mk14 => k_is)
    (case kc14 => k_is)
    (case a15 => k_is)
    (case i15 => k_is)
    (case l15 => k_is)
    (case c15 => k_is)
    (case k15 => k_is)
    (case a16 => k_is)
    (case i16 => k_is)
    (case l16 => k_is)
    (case c16 => k_is)
    (case k16 => k_is)
    (case t16 => k_is)
    (case a17 => k_is)
    (case i17 => k_is)
    (case l17 => k_is)
    (case c17 => k_is)
    (case k17 => k_is)
    (case a18 => k_is)
    (case l18 => k_is)
    (case c18 => k_is)
    (case k18 => k_is)
    (case a19 => k_is)
    (case l19 => k_is)
    (case c19 => k_is)
    (case k19 => k_is)
    (case a20 => k_is)
    (case i20 => k_is)
    (case l20 => k_is)
    (case c20 => k_is)
    (case k20 => k_is)
    (case mk20 => k_is)
    (case kc20 => k_is)
    (case a21 => k_is)
    (case i21 => k_is)
    (case l21 => k_is)
    (case c21 => k_is)
    (case k21 => k_is)
    (case a22 => k_is)
    (case i22 => k_is)
    (case l22 => k_is)
    (case c22 => k_is)
    (case k22 => k_is)
    (case a23 => k_is)
    (case i23 => k_is)
    (case l23 => k_is)
    (case c23 => k_is)
    (case k23 => k_is)
    (case a24 => k_is)
    (case l24 => k_is)
    (case c24 => k_is)
    (case k24 => k_is)
    (case a25 => k_is)
    (case l25 => k_is)
    (case c25 => k_is)
    (case k25 => k_is)
    (case a26 => k_is)
    (case l26 => k_is)
    (case c26 => k_is)
    (case k26 => k_is)
    (case a27 => k_is)
    (case l27 => k_is)
    (case c27 => k_is)
    (case k27 => k_is)
    (case a28 => k_is)
    (case l28 => k_is)
    (case c28 => k_is)
    (case k28 => k_is)
    (case a29 => k_is)
    (case l29 => k_is)
    (case c29 => k_is)
    (case k29 => k_is)
    (case a30 => k_is)
    (case l30 => k_is)
    (case c30 => k_is)
    (case k30 => k_is)
    (case a31 => k_is)
    (case l31 => k_is)
    (case c31 => k_is)
    (case k31 => k_is)
    (case a32 => k_is)
    (case l32 => k_is)
    (case c32 => k_is)
    (case k32 => k_is)
    (case a33 => k_is)
    (case l33 => k_is)
    (case c33 => k_is)
    (case k33 => k_is)
    (case a34 => k_is)
    (case l34 => k_is)
    (case c34 => k_is)
    (case k34 => k_is)
    (case a35 => k_is)
    (case l35 => k_is)
    (case c35 => k_is)
    (case k35 => k_is)
    (case a36 => k_is)
    (case l36 => k_is)
    (case c36 => k_is)
    (case k36 => k_is)
    (case a37 => k_is)
    (case i37 => k_is)
    (case l37 => k_is)
    (case c37 => k_is)
    (case k37 => k_is)
    (case a38 => k_is)
    (case i38 => k_is)
    (case l38 => k_is)
    (case c38 => k_is)
    (case k38 => k_is)
    (case a39 => k_is)
    (case i39 => k_is)
    (case l39 => k_is)
    (case c39 => k_is)
    (case k39 => k_is)
    (case a40 => k_is)
    (case i40 => k_is)
    (case l40 => k_is)
    (case c40 => k_is)
    (case k40 => k_is)
    (case a41 => k_is)
    (case i41 => k_is)
    (case l41 => k_is)
    (case c41 => k_is)
    (case k41 => k_is)
    (case a42 => k_is)
    (case i42 => k_is)
    (case l42 => k_is)
    (case c42 => k_is)
    (case k42 => k_is)
    (case a43 => k_is)
    (case i43 => k_is)
    (case l43 => k_is)
    (case c43 => k_is)
    (case k43 => k_is)
    (case a44 => k_is)
    (case i44 => k_is)
    (case l44 => k_is)
    (case c44 => k_is)
    (case k44 => k_is)
    (case a45 => k_is)
    (case l45 => k_is)
    (case c45 => k_is)
    (case k45 => k_is)
    (case a46 => k_is)
    (case l46 => k_is)
    (case c46 => k_is)
    (case k46 => k_is)
    (case a47 => k_is)
    (case l47 => k_is)
    (case c47 => k_is)
    (case k47 => k_is)
    (case a48 => k_is)
    (case l48 => k_is)
    (case c48 => k_is)
    (case k48 => k_is)
    (case a49 => k_is)
    (case l49 => k_is)
    (case c49 => k_is)
    (case k49 => k_is)
    (case a50 => k_is)
    (case l50 => k_is)
    (case c50 => k_is)
    (case k50 => k_is)
    (case a51 => k_is)
    (case l51 => k_is)
    (case c51 => k_is)
    (case k51 => k_is)
    (case a52 => k_is)
    (case l52 => k_is)
    (case c52 => k_is)
    (case k52 => k_is)
    (case a53 => k_is)
    (case l53 => k_is)
    (case c53 => k_is)
    (case k53 => k_is)
    (case a54 => k_is)
    (case l54 => k_is)
    (case c54 => k_is)
    (case k54 => k_is)
    (case a55 => k_is)
    (case l55 => k_is)
    (case c55 => k_is)
    (case k55 => k_is)
    (case a56 => k_is)
    (case l56 => k_is)
    (case c56 => k_is)
    (case k56 => k_is)
    (case a57 => k_is)
    (case l57 => k_is)
    (case c57 => k_is)
    (case k57 => k_is)
    (case a58 => k_is)
    (case l58 => k_is)
    (case c58 => k_is)
    (case k58 => k_is)
    (case a59 => k_is)
    (case l59 => k_is)
    (case c59 => k_is)
    (case k59 => k_is)
    (case a60 => k_is)
    (case l60 => k_is)
    (case c60 => k_is)
    (case k60 => k_is)
    (case z_all => k_is)
    (case z_any => k_is)
    (case z_bool => k_is)
    (case z_divmod => k_is)
    (case z_int => k_is)
    (case z_isinstance => k_is)
    (case z_len => k_is)
    (case z_list => k_is)
    (case z_max => k_is)
    (case z_min => k_is)
    (case z_range => k_is)
    (case z_repr => k_is)
    (case z_reversed => k_is)
    (case z_set => k_is)
    (case z_str => k_is)
    (case z_tuple => k_is)
    (case z_zip => k_is)
    (case z_FIGURES => k_is)
    (case z_LETTERS => k_is)
    (case z_MOST_PARCELS => k_is)
    (case z_MOST_POINTS => k_is)
    (case z_MOST_SIDE => k_is)
    (case z_MOST_SIZE => k_is)
    (case z_MOST_WALL => k_is)
    (case z_MOST_WEIGHT => k_is)
    (case icNoSize => k_is)
    (case sbNoSize_NoSize => k_is)
    (case z_KEPT => k_is)
    (case kM_ => k_is)
    (case z_LABELS => k_is)
    (case kL_ => k_is)
    (case z_MARKS => k_is)
    (case kR_ => k_is)
    (case z_ORDERS => k_is)
    (case kO => k_is)
    (case kt0_ => k_is)
    (case kt1_ => k_is)
    (case kt2_ => k_is)
    (case kt3_ => k_is)
    (case kt4_ => k_is)
    (case kt5_ => k_is)
