import PyProof.Rows.All
import Wide.All
import OpenK.AllK
import Wide.FinOn
import HandS.ForMost
import HandS.Walk
import HandS.IsInst
import HandS.Codes
import HandS.Wide
import HandS.Defaults
import HandS.MakeKwOnly
import KE.KDictList
import HandS.TupLe
import HandS.Exc
import HandS.ExcInit
import HandS.ExcField
import HandS.SortKw
import HandS.Zip
import HandS.NoneIn
import HandS.TryMany
import KE.GoesMore
import KE.KCallOwn
import HandS.TupAny
import HandS.FStr
import HandS.More
import HandS.OwnEq
import HandS.Style
import KE.DatumOrd
import KE.SortKeyHeap
import HandS.Keys
import KE.KDictCopyH
import PyProof.Rows.SortShellAny
import HandS.SortOrd
import KE.KDictZip
import KE.GoesZip
import HandS.Conv
import PySem.Challenge.RW_boxinbox_k40_stacks_refused_and_by_names
set_option Elab.async false
set_option linter.all false
set_option maxRecDepth 100000
set_option maxHeartbeats 8000000
namespace PySem.W.Fast
theorem tw7847284531929875808 : True := trivial
theorem tw2526570157733451293 : True := trivial
theorem tw4284714278171110845 : True := trivial
theorem tw6278847091573490917 : True := trivial
theorem tw1423750794760120577 : True := trivial
theorem tw8615686650815820968 : True := trivial
theorem tw9091754857765548526 : True := trivial
theorem tw1135720941615902598 : True := trivial
theorem tw5096641304731621693 : True := trivial
theorem tw5408251882614844405 : True := trivial
theorem tw15625528623040988798 : True := trivial
theorem tw2583364674015101688 : True := trivial
theorem tw15754349981390057454 : True := trivial
theorem tw4055641291174747871 : True := trivial
theorem tw5837364460497982284 : True := trivial
end PySem.W.Fast
namespace VS
def Box (p : Prop) : Prop := p
theorem box {p : Prop} (h : p) : Box p = True := eq_true h
theorem unbox {p : Prop} (h : Box p) : p := h
end VS
namespace VS
open PySem L2 C8 PySem.Spec PyProof.Rows
/-! ### objects of own exception classes: their class, isinstance, == with own instances -/
section
open PySem.W
variable {prog : Program} {w : World} {A : Around} {E : Value → Shared → Prop} {s : Shared} {K : PySem.W.Frag} {x D : Addr} {ox od : Obj}
structure XcT (K : PySem.W.Frag) (D : Addr) : Prop where
  ga : PySem.W.findIn K (.ref D) "__getattribute__" = some (some (.builtin "BaseException.__getattribute__"))
  gg : PySem.W.findIn K (.ref D) "__getattr__" = some none
  exC : PySem.W.subIn K (.ref D) (.type "BaseException") = some true
  hd : PySem.W.hasDictIn K D = true
  ha : PySem.W.findIn K (.ref D) "__class__" = some (some (.builtin "object.__class__"))
  hn : PySem.W.specialIn K (.builtin "object.__class__") "__get__" = some (some (.builtin "getset_descriptor.__get__"))
  htk : PySem.W.takesIn K (.builtin "object.__class__") = some true
  hm : PySem.W.mroIn K D (.type "object") = some true
  eq : PySem.W.findIn K (.ref D) "__eq__" = some (some (.builtin "object.__eq__"))
theorem exc_class (T : XcT K D) {Q : Option Value → Shared → Prop} (X : K.In s.heap) (I : InstAt s.heap x ox D (some od)) (h : Q (some (.ref D)) { s with toks := s.toks + 1 }) : wpAny (model prog w) A (getAttr? (.ref x) "__class__") Q E s := by
  have hf : findObj K D (some od) "__class__" = some (.bind (.builtin "getset_descriptor.__get__") (.builtin "object.__class__")) := findObj_data (by obtain ⟨cd, hc, _⟩ := any_some T.hd; rw [hc]; rfl) T.ha T.hn T.htk
  obtain ⟨hp, g, d, t, os⟩ := s
  have L0 := I.type (M := model prog w)
  have L1 := looks_findIn (M := model prog w) X T.ga
  have L2 := looks_findIn (M := model prog w) X T.gg
  have L3 := looks_find (M := model prog w) X I hf
  have sub : Looks (model prog w) hp (isInstance (.ref x) (.type "BaseException")) true := L0.andThen (looks_subIn X T.exC)
  have hx2 : (Value.builtin "BaseException.__getattribute__" == Value.builtin "object.__getattribute__") = false := by decide +kernel
  have hx1 : (onTheHeap (Value.ref D) && Value.builtin "BaseException.__getattribute__" == Value.builtin "object.__getattribute__") = false := by rw [hx2]; rfl
  unfold getAttr? getAttrBy? getAttrBy
  refine wpAny_bind (wpAny_mkText (wpAny_bind (wpAny_attempt (wpAny_holding (wpAny_bind (L0.at (wpAny_bind (L1.at ?_))))))))
  show wpAny _ _ (if (onTheHeap (Value.ref D) && Value.builtin "BaseException.__getattribute__" == Value.builtin "object.__getattribute__") = true then _ else _) _ _ _
  rw [hx1, if_neg Bool.false_ne_true]
  unfold getAttrByItsOwn hookBefore
  refine wpAny_bind ?_
  rw [if_pos (show onTheHeap (Value.ref D) = true from rfl)]
  refine L2.at ?_
  refine wpAny_bind (wpAny_attempt (wpAny_holding ?_))
  unfold callGetattribute
  rw [show (false && onTheHeap (Value.builtin "BaseException.__getattribute__")) = false from rfl, if_neg Bool.false_ne_true]
  unfold boundAndCalled
  rw [PySem.F.excAttr_ValueError.ga.bind (.ref x)]
  refine wpAny_bind (wpAny_pure ?_)
  show wpAny _ _ (call (.builtin "BaseException.__getattribute__") [.ref x, .str "__class__" t]) _ _ _
  refine wpAny_call (codeAny_call_builtin PySem.F.excAttr_ValueError.ga.plain PySem.F.entry_bexc_ga ?_)
  refine @check_slot (model prog w) _ _ ⟨hp, g, d, t + 1, os⟩ "BaseException.__getattribute__" "BaseException" "__getattribute__" (.ref x) [.str "__class__" t] [] _ (by decide +kernel) (by decide +kernel) sub (PySem.F.args_bexc_ga (.ref x) (.str "__class__" t)) ?_
  unfold Builtin.«object.__getattribute__»
  refine wpAny_bind (wpAny_of_eq (a := ((Value.ref x : Value), [Value.str "__class__" t])) (by first | rfl | (simp only [slotArgs]; rfl)) ?_)
  refine wpAny_bind (wpAny_pure (wpAny_bind (L0.at (wpAny_bind (L3.at ?_)))))
  show wpAny _ _ (holding [Value.builtin "object.__class__"] (call (.builtin "getset_descriptor.__get__") [.builtin "object.__class__", .ref x, .ref D]) >>= ret) _ _ _
  refine wpAny_bind (wpAny_holding (wpAny_call (class_get (ox := ox) (od := some od) X I T.hm ?_)))
  refine wpAny_pure ?_
  show wpAny _ _ (handedOut (.ref D)) _ _ _
  rw [handedOut_of rfl]
  exact wpAny_pure (wpAny_pure h)
end
open PySem.W in
theorem kitx_exc {K : PySem.W.Frag} {x D : Addr} {ox od : Obj} (T : XcT K D) : PySem.W.KitX K (.ref x) (.ref D) (fun h => PySem.W.InstAt h x ox D (some od)) where
  ty := fun _ _ _ I => I.type
  it := fun _ _ X _ => by
    obtain ⟨cdD, hcD, _⟩ := any_some T.hd
    unfold clsIn at hcD
    split at hcD
    · rename_i c' d' cd' sl' ho
      intro A' Q' E' s' k q
      unfold isType loadHead
      exact wpAny_bind (wpAny_loadPart (k _ _ (X _ _ ho)) (wpAny_pure q))
    · cases hcD
  ne := fun h tp dd its n sl X htp => by
    obtain ⟨cdD, hcD, _⟩ := any_some T.hd
    refine Bool.eq_false_iff.mpr fun q => ?_
    have e : D = tp := Value.ref.inj (beq_iff_eq.mp q)
    subst e
    unfold clsIn at hcD
    split at hcD
    · rename_i c' d' cd' sl' ho
      have z := (X _ _ ho).symm.trans htp
      cases z
    · cases hcD
  ca := fun X I k => exc_class T X I k
section
variable {X : Cx} {pins : List (Addr × Obj)} {σ : L2.St} {H : Hp} {s : Shared}
/-- the class of a thing, also of an object of an own exception class -/
inductive TyZ (K : PySem.W.Frag) (H : Hp) : V → Value → Prop
  | x {v : V} {t : Value} (h : TyX K H v t) : TyZ K H v t
  | e {a C dd : Addr} {fs : List (Str × V)} (h : H a = some (exo a C (some dd))) (h2 : H dd = some (exd dd fs)) (T : XcT K C) : TyZ K H (.ref a) (.ref C)
theorem exo_inst {a C dd : Addr} {fs : List (Str × V)} (I : Inv X pins σ H s) (h : H a = some (exo a C (some dd))) (h2 : H dd = some (exd dd fs)) :
    ∃ ox od, PySem.W.InstAt s.heap a ox C (some od) ∧ s.heap.get? a = some ox ∧ ox.cls = .ref C := by
  obtain ⟨t1, ho⟩ := exo_at I.hok h
  obtain ⟨mA, ⟨od, es, ep, hd, _⟩, _⟩ := exd_at I.hok h2
  exact ⟨_, od, ⟨ho, rfl, rfl, hd⟩, ho, rfl⟩
theorem kit_ofZ {x : V} {u t : Value} (I : Inv X pins σ H s) (rx : RelV x u) (ty : TyZ X.K H x t) : ∃ P : Heap → Prop, PySem.W.KitX X.K u t P ∧ P s.heap ∧ u ≠ .builtin "__main__.__loader__#opaque" := by
  cases ty with
  | x h => exact kit_of I rx h
  | @e a C dd fs h h2 T =>
    cases (show u = Value.ref a from rx)
    obtain ⟨ox, od, J, _⟩ := exo_inst I h h2
    exact ⟨_, kitx_exc T, J, fun z => nomatch z⟩
def rIsiZ (K : PySem.W.Frag) : List V → Hp → VK → Prop := fun xs H Q => ∃ (x c : V) (t u : Value) (b : Bool), xs = [x, c] ∧ ClsV c u ∧ TyZ K H x t ∧ PySem.W.kitOne K t u = some b ∧ Q (.bl b) H
theorem c_isiZ : CallR X (.builtin "isinstance") (rIsiZ X.K) := by
  intro pins s σ H xs us Q I r h
  obtain ⟨x, c, t, u, b, rfl, k, ty, e, q⟩ := h
  obtain ⟨u1, u2, rfl, r1, r2⟩ := vals2 r
  have e2 := k.eq r2
  subst e2
  obtain ⟨P, Z, p, hx⟩ := kit_ofZ I r1 ty
  exact PySem.W.kia_one Z I.kIn p e hx fun tk => ⟨.bl b, H, I.tok tk, rfl, q⟩
end
end VS
namespace VS
open PySem L2
/-! values without the heap -/
inductive D where
  | non | bl (b : Bool) | int (i : Int) | str (x : Str) | ty (n : String) | ref (a : Addr)
  | rol (xs : List D) | hid | lst (xs : List D) | tup (xs : List D) | dK (kvs : List (Key × D)) | ins (C : Addr) (fs : List (Str × D)) | xcp (a dd C : Addr) (fs : List (Str × D)) | xv (C : Addr) (fs : List (Str × D))
/-- the objects that are known by reference -/
abbrev Sto := Addr → Option D
def put (S : Sto) (a : Addr) (d : D) : Sto := fun b => if b = a then some d else S b
def del (S : Sto) (a : Addr) : Sto := fun b => if b = a then none else S b
theorem put_same {S : Sto} {a : Addr} {d : D} : put S a d a = some d := by unfold put; rw [if_pos rfl]
theorem put_ne {S : Sto} {a b : Addr} {d : D} (h : b ≠ a) : put S a d b = S b := by unfold put; rw [if_neg h]
theorem put_put {S : Sto} {a : Addr} {d e : D} : put (put S a d) a e = put S a e := by
  funext b; unfold put; split <;> rfl
theorem del_same {S : Sto} {a : Addr} : del S a a = none := by unfold del; rw [if_pos rfl]
theorem del_ne {S : Sto} {a b : Addr} (h : b ≠ a) : del S a b = S b := by unfold del; rw [if_neg h]
theorem ne_at {S : Sto} {a b : Addr} {d : D} (h : S a = some d) (h' : S b = none) : a ≠ b := by
  intro e; subst e; rw [h] at h'; cases h'
abbrev Kl (K : PySem.W.Frag) (a : Addr) (xs : List V) : Prop :=
  ∃ (o : Obj) (its : Array Value) (n : Nat), K.lookup a = some o ∧ o.cls = .type "list" ∧ o.dict = none ∧ o.data = .seq its n ∧ its.size ≤ sizeLine ∧ Vals xs its.toList
abbrev Kt (K : PySem.W.Frag) (a : Addr) (xs : List V) : Prop :=
  ∃ (o : Obj) (its : Array Value) (n : Nat), K.lookup a = some o ∧ o.cls = .type "tuple" ∧ o.data = .seq its n ∧ its.size ≤ sizeLine ∧ Vals xs its.toList
section
variable (K : PySem.W.Frag) (H : Hp) (S : Sto)
mutual
/-- v is the value d, all of whose objects stand in H and are not known by reference -/
inductive Rep : V → D → Prop
  | non : Rep .non .non
  | bl (b : Bool) : Rep (.bl b) (.bl b)
  | int (i : Int) : Rep (.int i) (.int i)
  | str (x : Str) : Rep (.str x) (.str x)
  | ty (n : String) : Rep (.ty n) (.ty n)
  | ref (a : Addr) : Rep (.ref a) (.ref a)
  | rol {a : Addr} {xs : List V} {ds : List D} {o : Obj} (s : S a = none) (h : H a = some (.frz o (.lst xs))) (r : RepL xs ds) : Rep (.ref a) (.rol ds)
  | rolK {a : Addr} {xs : List V} {ds : List D} (h : Kl K a xs) (r : RepL xs ds) : Rep (.ref a) (.rol ds)
  | lst {a : Addr} {xs : List V} {ds : List D} (s : S a = none) (h : H a = some (.lst xs)) (r : RepL xs ds) : Rep (.ref a) (.lst ds)
  | tup {a : Addr} {xs : List V} {ds : List D} (s : S a = none) (h : H a = some (.tup xs)) (r : RepL xs ds) : Rep (.ref a) (.tup ds)
  | tupK {a : Addr} {xs : List V} {ds : List D} (h : Kt K a xs) (r : RepL xs ds) : Rep (.ref a) (.tup ds)
  | dK {a : Addr} {kvs : List (Key × V)} {ds : List (Key × D)} (s : S a = none) (h : Rd H a (.dK kvs)) (r : RepK kvs ds) : Rep (.ref a) (.dK ds)
  | ins {a C dx : Addr} {fs : List (Str × V)} {ds : List (Str × D)} (s : S a = none) (h : H a = some (.ins C dx fs)) (r : RepF fs ds) : Rep (.ref a) (.ins C ds)
  | xcp {a dd C : Addr} {fs : List (Str × V)} {ds : List (Str × D)} (s : S dd = none) (h : H dd = some (.xd fs)) (r : RepF fs ds) : Rep (.ref a) (.xcp a dd C ds)
  | xv {a C dd : Addr} {fs : List (Str × V)} {ds : List (Str × D)} (s : S a = none) (h : H a = some (exo a C (some dd))) (s2 : S dd = none) (h2 : H dd = some (exd dd fs)) (r : RepF fs ds) : Rep (.ref a) (.xv C ds)
inductive RepL : List V → List D → Prop
  | nil : RepL [] []
  | cons {v : V} {vs : List V} {d : D} {ds : List D} (h : Rep v d) (t : RepL vs ds) : RepL (v :: vs) (d :: ds)
inductive RepK : List (Key × V) → List (Key × D) → Prop
  | nil : RepK [] []
  | cons {k : Key} {v : V} {vs : List (Key × V)} {d : D} {ds : List (Key × D)} (h : Rep v d) (t : RepK vs ds) : RepK ((k, v) :: vs) ((k, d) :: ds)
inductive RepF : List (Str × V) → List (Str × D) → Prop
  | nil : RepF [] []
  | cons {k : Str} {v : V} {vs : List (Str × V)} {d : D} {ds : List (Str × D)} (h : Rep v d) (t : RepF vs ds) : RepF ((k, v) :: vs) ((k, d) :: ds)
end
end
/-- from (S, H) to (S', H'): what is not known by reference stays, so does what is hidden -/
structure Mk (S : Sto) (H : Hp) (S' : Sto) (H' : Hp) : Prop where
  keep : ∀ a o, S a = none → H a = some o → H' a = some o
  fresh : ∀ a, S a = none → H a ≠ none → S' a = none
structure Mv (S : Sto) (H : Hp) (S' : Sto) (H' : Hp) : Prop extends Mk S H S' H' where
  hid : ∀ a o, S a = some .hid → H a = some o → H' a = some o ∧ S' a = some .hid
theorem Mv.refl {S : Sto} {H : Hp} : Mv S H S H := ⟨⟨fun _ _ _ h => h, fun _ h _ => h⟩, fun _ _ h e => ⟨e, h⟩⟩
theorem Mv.trans {S S1 S2 : Sto} {H H1 H2 : Hp} (a : Mv S H S1 H1) (b : Mv S1 H1 S2 H2) : Mv S H S2 H2 where
  keep := fun x o s h => b.keep x o (a.fresh x s (by rw [h]; simp)) (a.keep x o s h)
  fresh := fun x s h => by
    cases q : H x with
    | none => exact absurd q h
    | some o => exact b.fresh x (a.fresh x s h) (by rw [a.keep x o s q]; simp)
  hid := fun x o s h => let ⟨e1, e2⟩ := a.hid x o s h; b.hid x o e2 e1
/-- the same, but dicts may be locked, or freed again -/
def nrm : HO → HO
  | .frz _ (.dK k) => .dK k
  | o => o
structure Ml (S : Sto) (H : Hp) (S' : Sto) (H' : Hp) : Prop where
  kp : ∀ a o, S a = none → H a = some o → ∃ o', H' a = some o' ∧ nrm o' = nrm o
  fresh : ∀ a, S a = none → H a ≠ none → S' a = none
theorem Mk.ml {S S' : Sto} {H H' : Hp} (m : Mk S H S' H') : Ml S H S' H' := ⟨fun a o s h => ⟨o, m.keep a o s h, rfl⟩, m.fresh⟩
theorem nrm_eq {o o' : HO} (e : nrm o' = nrm o) (nd : ∀ k, nrm o ≠ .dK k) : o' = nrm o := by
  unfold nrm at e
  split at e
  · exact absurd e.symm (nd _)
  · exact e
theorem Ml.keep {S S' : Sto} {H H' : Hp} (m : Ml S H S' H') (a : Addr) (o : HO) (s : S a = none) (h : H a = some o) (nd : nrm o = o ∧ ∀ k, nrm o ≠ .dK k := by exact ⟨rfl, fun _ e => by cases e⟩) : H' a = some o := by
  obtain ⟨o', h', e⟩ := m.kp a o s h
  rw [h', nrm_eq e nd.2, nd.1]
theorem Ml.keepD {S S' : Sto} {H H' : Hp} (m : Ml S H S' H') {a : Addr} {k : List (Key × V)} (s : S a = none) (h : Rd H a (.dK k)) : Rd H' a (.dK k) := by
  have fin : ∀ o, H a = some o → nrm o = .dK k → Rd H' a (.dK k) := fun o ho e => by
    obtain ⟨o', h', e'⟩ := m.kp a o s ho
    rw [e] at e'
    unfold nrm at e'
    split at e'
    · cases e'
      exact .inr ⟨_, h'⟩
    · rw [e'] at h'
      exact .inl h'
  rcases h with h | ⟨o, h⟩
  · exact fin _ h rfl
  · exact fin _ h rfl
theorem rd_ne {H : Hp} {a : Addr} {u : HO} (h : Rd H a u) : H a ≠ none := by
  rcases h with h | ⟨o, h⟩ <;> (rw [h]; simp)
section
variable {K : PySem.W.Frag} {S S' : Sto} {H H' : Hp}
mutual
theorem Rep.ml (m : Ml S H S' H') : ∀ {v : V} {d : D}, Rep K H S v d → Rep K H' S' v d
  | _, _, .non => .non
  | _, _, .bl b => .bl b
  | _, _, .int i => .int i
  | _, _, .str x => .str x
  | _, _, .ty n => .ty n
  | _, _, .ref a => .ref a
  | _, _, .rol s h r => .rol (m.fresh _ s (by rw [h]; simp)) (m.keep _ _ s h) (RepL.ml m r)
  | _, _, .rolK h r => .rolK h (RepL.ml m r)
  | _, _, .lst s h r => .lst (m.fresh _ s (by rw [h]; simp)) (m.keep _ _ s h) (RepL.ml m r)
  | _, _, .tup s h r => .tup (m.fresh _ s (by rw [h]; simp)) (m.keep _ _ s h) (RepL.ml m r)
  | _, _, .tupK h r => .tupK h (RepL.ml m r)
  | _, _, .dK s h r => .dK (m.fresh _ s (rd_ne h)) (m.keepD s h) (RepK.ml m r)
  | _, _, .ins s h r => .ins (m.fresh _ s (by rw [h]; simp)) (m.keep _ _ s h) (RepF.ml m r)
  | _, _, .xcp s h r => .xcp (m.fresh _ s (by rw [h]; simp)) (m.keep _ _ s h) (RepF.ml m r)
  | _, _, .xv s h s2 h2 r => .xv (m.fresh _ s (by rw [h]; simp)) (m.keep _ _ s h) (m.fresh _ s2 (by rw [h2]; simp)) (m.keep _ _ s2 h2) (RepF.ml m r)
theorem RepL.ml (m : Ml S H S' H') : ∀ {vs : List V} {ds : List D}, RepL K H S vs ds → RepL K H' S' vs ds
  | _, _, .nil => .nil
  | _, _, .cons h t => .cons (Rep.ml m h) (RepL.ml m t)
theorem RepK.ml (m : Ml S H S' H') : ∀ {vs : List (Key × V)} {ds : List (Key × D)}, RepK K H S vs ds → RepK K H' S' vs ds
  | _, _, .nil => .nil
  | _, _, .cons h t => .cons (Rep.ml m h) (RepK.ml m t)
theorem RepF.ml (m : Ml S H S' H') : ∀ {vs : List (Str × V)} {ds : List (Str × D)}, RepF K H S vs ds → RepF K H' S' vs ds
  | _, _, .nil => .nil
  | _, _, .cons h t => .cons (Rep.ml m h) (RepF.ml m t)
end
theorem Rep.mk (m : Mk S H S' H') {v : V} {d : D} (r : Rep K H S v d) : Rep K H' S' v d := Rep.ml m.ml r
theorem RepL.mk (m : Mk S H S' H') {vs : List V} {ds : List D} (r : RepL K H S vs ds) : RepL K H' S' vs ds := RepL.ml m.ml r
theorem RepK.mk (m : Mk S H S' H') {vs : List (Key × V)} {ds : List (Key × D)} (r : RepK K H S vs ds) : RepK K H' S' vs ds := RepK.ml m.ml r
theorem RepF.mk (m : Mk S H S' H') {vs : List (Str × V)} {ds : List (Str × D)} (r : RepF K H S vs ds) : RepF K H' S' vs ds := RepF.ml m.ml r
theorem Rep.mv {v : V} {d : D} (r : Rep K H S v d) (m : Mv S H S' H') : Rep K H' S' v d := Rep.mk m.toMk r
theorem RepL.mv {v : List V} {d : List D} (r : RepL K H S v d) (m : Mv S H S' H') : RepL K H' S' v d := RepL.mk m.toMk r
theorem RepK.mv {v : List (Key × V)} {d : List (Key × D)} (r : RepK K H S v d) (m : Mv S H S' H') : RepK K H' S' v d := RepK.mk m.toMk r
theorem RepF.mv {v : List (Str × V)} {d : List (Str × D)} (r : RepF K H S v d) (m : Mv S H S' H') : RepF K H' S' v d := RepF.mk m.toMk r
theorem RepL.length : ∀ {vs : List V} {ds : List D}, RepL K H S vs ds → vs.length = ds.length
  | _, _, .nil => rfl
  | _, _, .cons _ t => congrArg Nat.succ (RepL.length t)
theorem RepL.get : ∀ {vs : List V} {ds : List D} {i : Nat} {d : D}, RepL K H S vs ds → ds[i]? = some d → ∃ v, vs[i]? = some v ∧ Rep K H S v d
  | _, _, _, _, .nil, e => by simp at e
  | _, _, 0, _, .cons h _, e => by simp at e; subst e; exact ⟨_, rfl, h⟩
  | _, _, i + 1, d, .cons _ t, e => by
    obtain ⟨v, h1, h2⟩ := RepL.get (i := i) (d := d) t (by simpa using e)
    exact ⟨v, by simpa using h1, h2⟩
theorem RepL.append : ∀ {xs ys : List V} {us ws : List D}, RepL K H S xs us → RepL K H S ys ws → RepL K H S (xs ++ ys) (us ++ ws)
  | _, _, _, _, .nil, s => s
  | _, _, _, _, .cons r t, s => .cons r (RepL.append t s)
theorem RepL.set {x : V} {u : D} (r : Rep K H S x u) : ∀ {xs : List V} {us : List D} (i : Nat), RepL K H S xs us → RepL K H S (xs.set i x) (us.set i u)
  | _, _, _, .nil => .nil
  | _, _, 0, .cons _ t => .cons r t
  | _, _, i + 1, .cons q t => .cons q (RepL.set r i t)
theorem RepL.take : ∀ {xs : List V} {us : List D} (n : Nat), RepL K H S xs us → RepL K H S (xs.take n) (us.take n)
  | _, _, 0, _ => .nil
  | _, _, _ + 1, .nil => .nil
  | _, _, n + 1, .cons r t => .cons r (RepL.take n t)
theorem RepL.drop : ∀ {xs : List V} {us : List D} (n : Nat), RepL K H S xs us → RepL K H S (xs.drop n) (us.drop n)
  | _, _, 0, r => r
  | _, _, _ + 1, .nil => .nil
  | _, _, n + 1, .cons _ t => RepL.drop n t
theorem RepL.eraseIdx : ∀ {xs : List V} {us : List D} (n : Nat), RepL K H S xs us → RepL K H S (xs.eraseIdx n) (us.eraseIdx n)
  | _, _, _, .nil => .nil
  | _, _, 0, .cons _ t => t
  | _, _, n + 1, .cons r t => .cons r (RepL.eraseIdx n t)
theorem RepL.ints : ∀ {vs : List V} {ns : List Int}, RepL K H S vs (ns.map D.int) → vs = ns.map V.int
  | _, [], .nil => rfl
  | _, n :: ns, .cons (.int _) t => congrArg (V.int n :: ·) (RepL.ints t)
theorem RepL.strs : ∀ {vs : List V} {ns : List Str}, RepL K H S vs (ns.map D.str) → vs = ns.map V.str
  | _, [], .nil => rfl
  | _, n :: ns, .cons (.str _) t => congrArg (V.str n :: ·) (RepL.strs t)
theorem RepL.bls : ∀ {vs : List V} {ns : List Bool}, RepL K H S vs (ns.map D.bl) → vs = ns.map V.bl
  | _, [], .nil => rfl
  | _, n :: ns, .cons (.bl _) t => congrArg (V.bl n :: ·) (RepL.bls t)
theorem RepL.ofInts : ∀ {ns : List Int}, RepL K H S (ns.map V.int) (ns.map D.int)
  | [] => .nil
  | n :: _ => .cons (.int n) RepL.ofInts
theorem RepL.ofStrs : ∀ {ns : List Str}, RepL K H S (ns.map V.str) (ns.map D.str)
  | [] => .nil
  | n :: _ => .cons (.str n) RepL.ofStrs
theorem RepF.lookup {f : Str} {d : D} : ∀ {vs : List (Str × V)} {ds : List (Str × D)}, RepF K H S vs ds → ds.lookup f = some d → ∃ v, vs.lookup f = some v ∧ Rep K H S v d
  | _, _, .nil, e => by cases e
  | _, _, .cons (k := k) h t, e => by
    by_cases q : f == k
    · rw [List.lookup_cons, q] at e
      cases e
      exact ⟨_, by rw [List.lookup_cons, q], h⟩
    · have q' : (f == k) = false := by simpa using q
      rw [List.lookup_cons, q'] at e
      obtain ⟨v, h1, h2⟩ := RepF.lookup t e
      exact ⟨v, by rw [List.lookup_cons, q']; exact h1, h2⟩
theorem RepF.lookup_none {f : Str} : ∀ {vs : List (Str × V)} {ds : List (Str × D)}, RepF K H S vs ds → ds.lookup f = none → vs.lookup f = none
  | _, _, .nil, _ => rfl
  | _, _, .cons (k := k) h t, e => by
    by_cases q : f == k
    · rw [List.lookup_cons, q] at e
      cases e
    · have q' : (f == k) = false := by simpa using q
      rw [List.lookup_cons, q'] at e
      rw [List.lookup_cons, q']
      exact RepF.lookup_none t e
theorem RepF.length : ∀ {vs : List (Str × V)} {ds : List (Str × D)}, RepF K H S vs ds → vs.length = ds.length
  | _, _, .nil => rfl
  | _, _, .cons _ t => congrArg Nat.succ (RepF.length t)
def putD (f : Str) (v : D) : List (Str × D) → List (Str × D)
  | [] => [(f, v)]
  | (g, u) :: r => if g = f then (g, v) :: r else (g, u) :: putD f v r
theorem RepF.put {f : Str} {v : V} {d : D} (r : Rep K H S v d) : ∀ {vs : List (Str × V)} {ds : List (Str × D)}, RepF K H S vs ds → RepF K H S (putF f v vs) (putD f d ds)
  | _, _, .nil => .cons r .nil
  | _, _, .cons (k := k) h t => by
    unfold putD putF
    by_cases q : k = f
    · rw [if_pos q, if_pos q]; exact .cons r t
    · rw [if_neg q, if_neg q]; exact .cons h (RepF.put r t)
theorem Rep.seqL {v : V} {ds : List D} (r : Rep K H S v (.lst ds)) : ∃ a xs, v = .ref a ∧ S a = none ∧ H a = some (.lst xs) ∧ RepL K H S xs ds := by
  cases r with
  | lst s h r => exact ⟨_, _, rfl, s, h, r⟩
theorem Rep.seqR {v : V} {ds : List D} (r : Rep K H S v (.rol ds)) : ∃ a xs, v = .ref a ∧ (∀ S' H', Mv S H S' H' → SqL K H' a xs) ∧ RepL K H S xs ds := by
  cases r with
  | rol s h r => exact ⟨_, _, rfl, fun S' H' m => .inl (.inr ⟨_, m.keep _ _ s h⟩), r⟩
  | rolK h r => exact ⟨_, _, rfl, fun _ _ _ => .inr h, r⟩
theorem Rep.seqT {v : V} {ds : List D} (r : Rep K H S v (.tup ds)) : ∃ a xs, v = .ref a ∧ SqT K H a xs ∧ RepL K H S xs ds := by
  cases r with
  | tup s h r => exact ⟨_, _, rfl, .inl (.inl h), r⟩
  | tupK h r => exact ⟨_, _, rfl, .inr h, r⟩
end
/-! what is known by reference stands -/
def CellOk (K : PySem.W.Frag) (H : Hp) (S : Sto) (a : Addr) : D → Prop
  | .lst ds => ∃ xs, H a = some (.lst xs) ∧ RepL K H S xs ds
  | .dK ds => ∃ kvs, H a = some (.dK kvs) ∧ RepK K H S kvs ds
  | .ins C ds => ∃ dx fs, H a = some (.ins C dx fs) ∧ RepF K H S fs ds
  | .hid => ∃ o, H a = some o
  | _ => False
theorem cell_l {K : PySem.W.Frag} {H : Hp} {S : Sto} {a : Addr} {xs : List V} {ds : List D} (h : H a = some (.lst xs)) (r : RepL K H S xs ds) : CellOk K H S a (.lst ds) := ⟨xs, h, r⟩
theorem cell_i {K : PySem.W.Frag} {H : Hp} {S : Sto} {a C dx : Addr} {xs : List (Str × V)} {ds : List (Str × D)} (h : H a = some (.ins C dx xs)) (r : RepF K H S xs ds) : CellOk K H S a (.ins C ds) := ⟨dx, xs, h, r⟩
/-- the whole of what is known by reference: S, and what is hidden -/
structure Cells (K : PySem.W.Frag) (H : Hp) (S T : Sto) : Prop where
  ov : ∀ a, (T a = S a ∧ T a ≠ some .hid) ∨ (S a = none ∧ T a = some .hid)
  ok : ∀ a d, T a = some d → CellOk K H T a d
section
variable {K : PySem.W.Frag} {S S' T T' : Sto} {H H' : Hp} {a p : Addr} {d : D}
theorem Cells.at (c : Cells K H S T) (h : S a = some d) : T a = some d := by
  rcases c.ov a with ⟨e, _⟩ | ⟨e, _⟩
  · rw [e]; exact h
  · rw [h] at e; cases e
theorem CellOk.mk (m : Mk S H S' H') (e : H' a = H a) : ∀ {d : D}, CellOk K H S a d → CellOk K H' S' a d
  | .lst _, ⟨xs, h, r⟩ => ⟨xs, by rw [e]; exact h, r.mk m⟩
  | .dK _, ⟨xs, h, r⟩ => ⟨xs, by rw [e]; exact h, r.mk m⟩
  | .ins _ _, ⟨dx, fs, h, r⟩ => ⟨dx, fs, by rw [e]; exact h, r.mk m⟩
  | .hid, ⟨o, h⟩ => ⟨o, by rw [e]; exact h⟩
theorem CellOk.mv (m : Mv S H S' H') (e : H' a = H a) {d : D} (h : CellOk K H S a d) : CellOk K H' S' a d := CellOk.mk m.toMk e h
theorem CellOk.there : ∀ {d : D}, CellOk K H S a d → H a ≠ none
  | .lst _, ⟨xs, h, _⟩ => by rw [h]; simp
  | .dK _, ⟨xs, h, _⟩ => by rw [h]; simp
  | .ins _ _, ⟨dx, fs, h, _⟩ => by rw [h]; simp
  | .hid, ⟨o, h⟩ => by rw [h]; simp
theorem Cells.free (c : Cells K H S T) (h : H p = none) : T p = none := by
  cases q : T p with
  | none => rfl
  | some d => exact absurd h (c.ok p d q).there
theorem Cells.freeS (c : Cells K H S T) (h : H p = none) : S p = none := by
  have q := c.free h
  rcases c.ov p with ⟨e, _⟩ | ⟨e, _⟩
  · rw [← e]; exact q
  · exact e
/-- a new object, known by value -/
theorem mv_new {o : HO} (h : H p = none) : Mv S H S (upd H p o) :=
  ⟨⟨fun _ _ _ e => by rw [upd_ne (ne_of_none e h)]; exact e, fun _ s _ => s⟩, fun _ _ s e => ⟨by rw [upd_ne (ne_of_none e h)]; exact e, s⟩⟩
theorem Cells.new {o : HO} (c : Cells K H S T) (h : H p = none) : Cells K (upd H p o) S T := ⟨c.ov, fun a d e => by
  have q := c.ok a d e
  refine CellOk.mv (mv_new h) (upd_ne fun z => ?_) q
  subst z
  exact q.there h⟩
theorem ov_put (h : ∀ a, (T a = S a ∧ T a ≠ some .hid) ∨ (S a = none ∧ T a = some .hid)) (nh : d ≠ .hid) : ∀ a, (put T p d a = put S p d a ∧ put T p d a ≠ some .hid) ∨ (put S p d a = none ∧ put T p d a = some .hid) := fun a => by
  by_cases z : a = p
  · subst z; rw [put_same, put_same]; exact .inl ⟨rfl, fun q => nh (Option.some.inj q)⟩
  · rw [put_ne z, put_ne z]; exact h a
/-- a new object, known by reference -/
theorem mv_newc {o : HO} (h : H p = none) : Mv S H (put S p d) (upd H p o) where
  keep := fun _ _ _ e => by rw [upd_ne (ne_of_none e h)]; exact e
  fresh := fun b s e => by
    rw [put_ne]
    · exact s
    · intro z; subst z; exact e h
  hid := fun b o s e => by
    have z := ne_of_none e h
    rw [upd_ne z, put_ne z]
    exact ⟨e, s⟩
theorem Cells.newc {o : HO} (c : Cells K H S T) (h : H p = none) (hd : CellOk K (upd H p o) (put T p d) p d) (nh : d ≠ .hid := by nofun) : Cells K (upd H p o) (put S p d) (put T p d) := ⟨ov_put c.ov nh, fun a e q => by
  by_cases z : a = p
  · subst z; rw [put_same] at q; cases q; exact hd
  · rw [put_ne z] at q
    have w := c.ok a e q
    exact CellOk.mv (mv_newc h) (upd_ne z) w⟩
/-- a new object, hidden -/
theorem Cells.newh {o : HO} (c : Cells K H S T) (h : H p = none) : Cells K (upd H p o) S (put T p .hid) := ⟨fun a => by
  by_cases z : a = p
  · subst z; exact .inr ⟨c.freeS h, put_same⟩
  · rw [put_ne z]; exact c.ov a, fun a e q => by
  by_cases z : a = p
  · subst z; rw [put_same] at q; cases q; exact ⟨o, upd_same⟩
  · rw [put_ne z] at q
    exact CellOk.mv (mv_newc h) (upd_ne z) (c.ok a e q)⟩
/-- the hidden object changes -/
theorem mk_hid {o : HO} (h : T p = some .hid) : Mk T H T (upd H p o) where
  keep := fun b _ s e => by
    rw [upd_ne]
    · exact e
    · intro z; subst z; rw [h] at s; cases s
  fresh := fun _ s _ => s
theorem Cells.hidw {o : HO} (c : Cells K H S T) (h : T p = some .hid) : Cells K (upd H p o) S T := ⟨c.ov, fun a e q => by
  by_cases z : a = p
  · subst z; rw [h] at q; cases q; exact ⟨o, upd_same⟩
  · exact CellOk.mk (mk_hid h) (upd_ne z) (c.ok a e q)⟩
theorem Mv.hidw {S1 : Sto} {H1 : Hp} {o : HO} (m : Mv S1 H1 T H) (n : H1 p = none) : Mv S1 H1 T (upd H p o) where
  keep := fun a u s e => by rw [upd_ne (ne_of_none e n)]; exact m.keep a u s e
  fresh := m.fresh
  hid := fun a u s e => by
    rw [upd_ne (ne_of_none e n)]
    exact m.hid a u s e
/-- the hidden object shows -/
theorem mk_show (h : T p = some .hid) : Mk T H (VS.del T p) H := ⟨fun _ _ _ h => h, fun b s _ => by
  unfold VS.del
  split
  · rfl
  · exact s⟩
theorem Cells.unhid (c : Cells K H S T) (h : T p = some .hid) : Cells K H S (VS.del T p) := ⟨fun a => by
  by_cases z : a = p
  · subst z
    rw [del_same]
    rcases c.ov a with ⟨_, e⟩ | ⟨e, _⟩
    · exact absurd h e
    · exact .inl ⟨e.symm, by simp⟩
  · rw [del_ne z]; exact c.ov a, fun a d q => by
  by_cases z : a = p
  · subst z; rw [del_same] at q; cases q
  · rw [del_ne z] at q
    exact CellOk.mk (mk_show h) rfl (c.ok a d q)⟩
/-- an object that is known by reference changes -/
theorem mv_wr {o : HO} {e : D} (h : S p = some e) (ne : e ≠ .hid := by nofun) : Mv S H (put S p d) (upd H p o) where
  keep := fun b _ s e => by
    rw [upd_ne]
    · exact e
    · intro z; subst z; rw [h] at s; cases s
  fresh := fun b s _ => by
    rw [put_ne]
    · exact s
    · intro z; subst z; rw [h] at s; cases s
  hid := fun b o s e => by
    have z : b ≠ p := by
      intro z; subst z; rw [h] at s; cases s; exact ne rfl
    rw [upd_ne z, put_ne z]
    exact ⟨e, s⟩
theorem Cells.wr {o : HO} {e : D} (c : Cells K H S T) (h : T p = some e) (hd : CellOk K (upd H p o) (put T p d) p d) (ne : e ≠ .hid := by nofun) (nh : d ≠ .hid := by nofun) : Cells K (upd H p o) (put S p d) (put T p d) := ⟨ov_put c.ov nh, fun a e q => by
  by_cases z : a = p
  · subst z; rw [put_same] at q; cases q; exact hd
  · rw [put_ne z] at q
    exact CellOk.mv (mv_wr h ne) (upd_ne z) (c.ok a e q)⟩
/-- from now on known by value -/
theorem mv_del (h : S p ≠ some .hid) : Mv S H (del S p) H := ⟨⟨fun _ _ _ h => h, fun b s _ => by
  unfold del
  split
  · rfl
  · exact s⟩, fun b o s e => ⟨e, by rw [del_ne]; exact s; intro z; subst z; exact h s⟩⟩
theorem Cells.del (c : Cells K H S T) (h : T p ≠ some .hid) : Cells K H (del S p) (del T p) := ⟨fun a => by
  by_cases z : a = p
  · subst z; rw [del_same, del_same]; exact .inl ⟨rfl, by simp⟩
  · rw [del_ne z, del_ne z]; exact c.ov a, fun a d q => by
  by_cases z : a = p
  · subst z; rw [del_same] at q; cases q
  · rw [del_ne z] at q
    exact CellOk.mv (mv_del h) rfl (c.ok a d q)⟩
theorem Cells.rep (c : Cells K H S T) (h : T p = some d) (ne : T p ≠ some .hid) : Rep K H (VS.del T p) (.ref p) d := by
  have q := c.ok p d h
  cases d with
  | lst ds => obtain ⟨xs, h1, r⟩ := q; exact .lst del_same h1 (r.mv (mv_del ne))
  | dK ds => obtain ⟨xs, h1, r⟩ := q; exact .dK del_same (.inl h1) (r.mv (mv_del ne))
  | ins C ds => obtain ⟨dx, fs, h1, r⟩ := q; exact .ins del_same h1 (r.mv (mv_del ne))
  | hid => exact absurd h ne
  | _ => exact q.elim
end
/-! ### where one stands -/
abbrev Rho := List (Option D)
/-- the written part; what is wanted of an exception, by the heap and by value (at the slots as they then are) -/
structure Ctx where
  K : PySem.W.Frag
  E : St → XK
  Y : Addr → List (Str × D) → Rho → Sto → Prop
def XRep (K : PySem.W.Frag) (H : Hp) (S : Sto) (d : Option Addr) (fs : List (Str × D)) : Prop :=
  ∃ dd fv, d = some dd ∧ S dd = none ∧ H dd = some (.xd fv) ∧ RepF K H S fv fs
/-- the slots hold what ρ says -/
structure Sl (K : PySem.W.Frag) (H : Hp) (T : Sto) (σ : St) (ρ : Rho) : Prop where
  slots : ∀ (i : Nat) (d : D), ρ[i]? = some (some d) → ∃ v, σ[i]? = some (some v) ∧ Rep K H T v d
  len : σ.length = ρ.length
structure In (c : Ctx) (σ : St) (H : Hp) (ρ : Rho) (S T : Sto) : Prop where
  cells : Cells c.K H S T
  slots : ∀ (i : Nat) (d : D), ρ[i]? = some (some d) → ∃ v, σ[i]? = some (some v) ∧ Rep c.K H T v d
  len : σ.length = ρ.length
  exc : ∀ (σ' : St) (ρ' : Rho) (C : Addr) (d : Option Addr) (fs : List (Str × D)) (S' T' : Sto) (H' : Hp), Mv T H T' H' → Cells c.K H' S' T' → Sl c.K H' T' σ' ρ' → XRep c.K H' T' d fs → c.Y C fs ρ' S' → c.E σ' (.ref C) d H'
section
variable {c : Ctx} {σ : St} {H H' : Hp} {ρ : Rho} {S S' T T' : Sto}
theorem In.mv (I : In c σ H ρ S T) (m : Mv T H T' H') (cl : Cells c.K H' S' T') : In c σ H' ρ S' T' :=
  ⟨cl, fun i d e => let ⟨v, h, r⟩ := I.slots i d e; ⟨v, h, r.mv m⟩, I.len, fun σ2 ρ2 C d fs S2 T2 H2 m2 c2 sl x y => I.exc σ2 ρ2 C d fs S2 T2 H2 (m.trans m2) c2 sl x y⟩
theorem In.sl (I : In c σ H ρ S T) : Sl c.K H T σ ρ := ⟨I.slots, I.len⟩
theorem In.set (I : In c σ H ρ S T) {v : V} {d : D} (i : Nat) (r : Rep c.K H T v d) : In c (σ.set i (some v)) H (ρ.set i (some d)) S T := by
  refine ⟨I.cells, fun j e q => ?_, by simp [I.len], I.exc⟩
  by_cases z : j = i
  · subst z
    have hj : j < ρ.length := by
      cases Nat.lt_or_ge j ρ.length with
      | inl h => exact h
      | inr h => rw [List.getElem?_eq_none (by simpa using h)] at q; cases q
    rw [List.getElem?_set_self hj] at q
    cases q
    exact ⟨v, List.getElem?_set_self (by rw [I.len]; exact hj), r⟩
  · rw [List.getElem?_set_ne (Ne.symm z)] at q
    obtain ⟨u, h1, h2⟩ := I.slots j e q
    exact ⟨u, by rw [List.getElem?_set_ne (Ne.symm z)]; exact h1, h2⟩
/-- another word for a slot's value -/
theorem In.reword (I : In c σ H ρ S T) {d d' : D} {i : Nat} (e : ρ[i]? = some (some d)) (h : ∀ v, Rep c.K H T v d → Rep c.K H T v d') : In c σ H (ρ.set i (some d')) S T := by
  refine ⟨I.cells, fun j e' q => ?_, by simp [I.len], I.exc⟩
  by_cases z : j = i
  · subst z
    have hj : j < ρ.length := (List.getElem?_eq_some_iff.mp e).1
    rw [List.getElem?_set_self hj] at q
    cases q
    obtain ⟨u, h1, h2⟩ := I.slots j d e
    exact ⟨u, h1, h u h2⟩
  · rw [List.getElem?_set_ne (Ne.symm z)] at q
    exact I.slots j e' q
end
/-! ### readings by value -/
def VE (c : Ctx) (te : TE) (ρ : Rho) (S : Sto) (F : D → Sto → Prop) : Prop := ∀ T σ H, In c σ H ρ S T → ∀ Q : VK,
  (∀ v d S' T' H', Mv T H T' H' → Cells c.K H' S' T' → Rep c.K H' T' v d → F d S' → Q v H') → te σ H Q
def VT (c : Ctx) (tt : TT) (ρ : Rho) (S : Sto) (F : Bool → Sto → Prop) : Prop := ∀ T σ H, In c σ H ρ S T → ∀ Q : Bool → Hp → Prop,
  (∀ b S' T' H', Mv T H T' H' → Cells c.K H' S' T' → F b S' → Q b H') → tt σ H Q
def VA (c : Ctx) (ta : TA) (ρ : Rho) (S : Sto) (F : List D → Sto → Prop) : Prop := ∀ T σ H, In c σ H ρ S T → ∀ Q : List V → Hp → Prop,
  (∀ vs ds S' T' H', Mv T H T' H' → Cells c.K H' S' T' → RepL c.K H' T' vs ds → F ds S' → Q vs H') → ta σ H Q
def VO (c : Ctx) (to : TO) (ρ : Rho) (S : Sto) (F : Option Int → Sto → Prop) : Prop := ∀ T σ H, In c σ H ρ S T → ∀ Q : Option Int → Hp → Prop,
  (∀ o S' T' H', Mv T H T' H' → Cells c.K H' S' T' → F o S' → Q o H') → to σ H Q
def RU (c : Ctx) (r : V → Hp → VK → Prop) (x : D) (S : Sto) (F : D → Sto → Prop) : Prop := ∀ T u H, Cells c.K H S T → Rep c.K H T u x → ∀ Q : VK,
  (∀ v d S' T' H', Mv T H T' H' → Cells c.K H' S' T' → Rep c.K H' T' v d → F d S' → Q v H') → r u H Q
def RV (c : Ctx) (r : R2) (x y : D) (S : Sto) (F : D → Sto → Prop) : Prop := ∀ T u w H, Cells c.K H S T → Rep c.K H T u x → Rep c.K H T w y → ∀ Q : VK,
  (∀ v d S' T' H', Mv T H T' H' → Cells c.K H' S' T' → Rep c.K H' T' v d → F d S' → Q v H') → r u w H Q
def RC (c : Ctx) (r : List V → Hp → VK → Prop) (ds : List D) (S : Sto) (F : D → Sto → Prop) : Prop := ∀ T us H, Cells c.K H S T → RepL c.K H T us ds → ∀ Q : VK,
  (∀ v d S' T' H', Mv T H T' H' → Cells c.K H' S' T' → Rep c.K H' T' v d → F d S' → Q v H') → r us H Q
def RM (c : Ctx) (r : V → List V → Hp → VK → Prop) (x : D) (ds : List D) (S : Sto) (F : D → Sto → Prop) : Prop := ∀ T u us H, Cells c.K H S T → Rep c.K H T u x → RepL c.K H T us ds → ∀ Q : VK,
  (∀ v d S' T' H', Mv T H T' H' → Cells c.K H' S' T' → Rep c.K H' T' v d → F d S' → Q v H') → r u us H Q
def VG (c : Ctx) (g : TG) (d : D) (ρ : Rho) (S : Sto) (F : Rho → Sto → Prop) : Prop := ∀ T v σ H, In c σ H ρ S T → Rep c.K H T v d → ∀ Q : St → Hp → Prop,
  (∀ σ' ρ' S' T' H', Mv T H T' H' → In c σ' H' ρ' S' T' → F ρ' S' → Q σ' H') → g v σ H Q
/-- what is wanted behind a statement -/
structure Po where
  nx : Rho → Sto → Prop
  rt : D → Sto → Prop
  bk : Rho → Sto → Prop
  ct : Rho → Sto → Prop
structure Bh (c : Ctx) (P : Po) (D : Ends) (T : Sto) (H : Hp) : Prop where
  nx : ∀ σ' ρ' S' T' H', Mv T H T' H' → In c σ' H' ρ' S' T' → P.nx ρ' S' → D.nx σ' H'
  rt : ∀ v d S' T' H', Mv T H T' H' → Cells c.K H' S' T' → Rep c.K H' T' v d → P.rt d S' → D.rt v H'
  bk : ∀ σ' ρ' S' T' H', Mv T H T' H' → In c σ' H' ρ' S' T' → P.bk ρ' S' → D.bk σ' H'
  ct : ∀ σ' ρ' S' T' H', Mv T H T' H' → In c σ' H' ρ' S' T' → P.ct ρ' S' → D.ct σ' H'
theorem Bh.mv {c : Ctx} {P : Po} {D : Ends} {T T' : Sto} {H H' : Hp} (b : Bh c P D T H) (m : Mv T H T' H') : Bh c P D T' H' :=
  ⟨fun σ ρ S2 T2 H2 m2 => b.nx σ ρ S2 T2 H2 (m.trans m2), fun v d S2 T2 H2 m2 => b.rt v d S2 T2 H2 (m.trans m2), fun σ ρ S2 T2 H2 m2 => b.bk σ ρ S2 T2 H2 (m.trans m2), fun σ ρ S2 T2 H2 m2 => b.ct σ ρ S2 T2 H2 (m.trans m2)⟩
def VX (c : Ctx) (t : TS) (ρ : Rho) (S : Sto) (P : Po) : Prop := ∀ T σ H, In c σ H ρ S T → ∀ D : Ends, Bh c P D T H → t D σ H
/-- an iterator: its values one by one -/
def Yl (K : PySem.W.Frag) (J : It) (ds : List D) (T : Sto) (H : Hp) : Prop := ∃ G Y, Walk J ds.length G Y ∧ (∀ T1 H1, Mv T H T1 H1 → G H1) ∧
  ∀ (i : Nat) (d : D) (S1 T1 : Sto) (H1 H2 : Hp) (x : V), ds[i]? = some d → Mv T H T1 H1 → Cells K H1 S1 T1 → Y i H1 x H2 → Mv T1 H1 T1 H2 ∧ Cells K H2 S1 T1 ∧ Rep K H2 T1 x d
def VI (c : Ctx) (wi : TI) (ρ : Rho) (S : Sto) (F : List D → Sto → Prop) : Prop := ∀ T σ H, In c σ H ρ S T → ∀ R : It → Hp → Prop,
  (∀ J ds S' T' H', Mv T H T' H' → Cells c.K H' S' T' → Yl c.K J ds T' H' → F ds S' → R J H') → wi σ H R
end VS
namespace VS
open PySem L2
/-! ### the readings that bear no name in the layer -/
abbrev CR1 := List V → Hp → VK → Prop
abbrev MR1 := V → List V → Hp → VK → Prop
def rAddStr : R2 := fun x y H Q => ∃ i j, x = .str i ∧ y = .str j ∧ i.length + j.length ≤ sizeLine ∧ Q (.str (i ++ j)) H
def rLtStr : R2 := fun x y H Q => ∃ i j, x = .str i ∧ y = .str j ∧ Q (.bl (decide (i.cps.toList < j.cps.toList))) H
def rLeStr : R2 := fun x y H Q => ∃ i j, x = .str i ∧ y = .str j ∧ Q (.bl (!decide (j.cps.toList < i.cps.toList))) H
def rInStr : R2 := fun x y H Q => ∃ i j, x = .str i ∧ y = .str j ∧ Q (.bl (!(Builtin.Str.occurrences j i 0 j.length 1).isEmpty)) H
def rNotInStr : R2 := fun x y H Q => ∃ i j, x = .str i ∧ y = .str j ∧ Q (.bl (!(!(Builtin.Str.occurrences j i 0 j.length 1).isEmpty))) H
def rLen (K : PySem.W.Frag) : CR1 := fun xs H Q => ∃ x n, xs = [x] ∧ LenV K x H n ∧ Q (.int n) H
def rAbs : CR1 := fun xs H Q => ∃ i, xs = [.int i] ∧ Q (.int (if i < 0 then -i else i)) H
def rMax2 : CR1 := fun xs H Q => ∃ i j, xs = [.int i, .int j] ∧ Q (.int (if j > i then j else i)) H
def rMin2 : CR1 := fun xs H Q => ∃ i j, xs = [.int i, .int j] ∧ Q (.int (if j < i then j else i)) H
def rInt1 : CR1 := fun xs H Q => (∃ i, xs = [.int i] ∧ Q (.int i) H) ∨ ∃ k, xs = [.bl k] ∧ Q (.int (if k then 1 else 0)) H
def rStrInt : CR1 := fun xs H Q => ∃ i, xs = [.int i] ∧ i.natAbs.log2 < 1920 ∧ Q (.str (toString i)) H
def rOrd : CR1 := fun xs H Q => ∃ x, xs = [.str x] ∧ x.length = 1 ∧ Q (.int (x.cps.getD 0 0 : Nat)) H
def rListOf (K : PySem.W.Frag) : CR1 := fun xs H Q => ∃ p ys, xs = [.ref p] ∧ (SqL K H p ys ∨ SqT K H p ys) ∧ ∀ l, H l = none → Q (.ref l) (upd H l (.lst ys))
def rTupleOf (K : PySem.W.Frag) : CR1 := fun xs H Q => ∃ p ys, xs = [.ref p] ∧ ((SqL K H p ys ∧ ∀ l, H l = none → Q (.ref l) (upd H l (.tup ys))) ∨ (SqT K H p ys ∧ Q (.ref p) H))
def rJoin (K : PySem.W.Frag) : MR1 := fun x xs H Q => ∃ a p, ∃ ys : List Str, x = .str a ∧ xs = [.ref p] ∧ (SqL K H p (ys.map V.str) ∨ SqT K H p (ys.map V.str)) ∧ (ys.map (·.length)).sum + ys.length * a.length ≤ 16777216 ∧ Q (.str (Txt.join a ys)) H
def rIsNo : R2 := fun x y H Q => y = .non ∧ Q (.bl (decide (x = .non))) H
def rNotNo : R2 := fun x y H Q => y = .non ∧ Q (.bl (!decide (x = .non))) H
section
variable {X : Cx}
theorem op_addS : OpR X (binaryOp .Add) rAddStr := op_add_str
theorem op_inStr : OpR X (compareOp .In) rInStr := op_in_str
theorem op_isNo : OpR X (compareOp .Is) rIsNo := op_isN
theorem op_notNo : OpR X (compareOp .IsNot) rNotNo := op_notN
theorem c_len : CallR X (.builtin "len") (rLen X.K) := call_len
theorem c_max2 (hc : X.calm = true) : CallR X (.builtin "max") rMax2 := call_max2 hc
theorem c_min2 (hc : X.calm = true) : CallR X (.builtin "min") rMin2 := call_min2 hc
theorem c_int1 : CallR X (.type "int") rInt1 := call_int1
theorem c_list : CallR X (.type "list") (rListOf X.K) := call_list_of
theorem c_tuple : CallR X (.type "tuple") (rTupleOf X.K) := call_tuple_of
theorem m_join : MtR X "str.join" (rJoin X.K) := mt_join
end
section
variable {c : Ctx} {ρ : Rho} {S : Sto} {F : D → Sto → Prop} {d : D}
/-! ### expressions -/
theorem ve_var {i : Nat} (h : ρ[i]? = some (some d)) (q : F d S) : VE c (tVar i) ρ S F := fun T σ H I Q k =>
  let ⟨v, e, r⟩ := I.slots i d h
  ⟨v, e, k v d S T H Mv.refl I.cells r q⟩
theorem ve_int {i : Int} (q : F (.int i) S) : VE c (tC (.int i)) ρ S F := fun T σ H I Q k => k _ _ S T H Mv.refl I.cells (.int i) q
theorem ve_bl {b : Bool} (q : F (.bl b) S) : VE c (tC (.bl b)) ρ S F := fun T σ H I Q k => k _ _ S T H Mv.refl I.cells (.bl b) q
theorem ve_str {x : Str} (q : F (.str x) S) : VE c (tC (.str x)) ρ S F := fun T σ H I Q k => k _ _ S T H Mv.refl I.cells (.str x) q
theorem ve_non (q : F .non S) : VE c (tC .non) ρ S F := fun T σ H I Q k => k _ _ S T H Mv.refl I.cells .non q
theorem ve_ty {n : String} (q : F (.ty n) S) : VE c (tC (.ty n)) ρ S F := fun T σ H I Q k => k _ _ S T H Mv.refl I.cells (.ty n) q
theorem ve_ref {a : Addr} (q : F (.ref a) S) : VE c (tC (.ref a)) ρ S F := fun T σ H I Q k => k _ _ S T H Mv.refl I.cells (.ref a) q
/-- a written thing that is a value at every heap -/
theorem ve_wr {v : V} (h : ∀ H S, Rep c.K H S v d) (q : F d S) : VE c (tC v) ρ S F := fun T σ H I Q k => k _ _ S T H Mv.refl I.cells (h H T) q
theorem ve_op {r : R2} {ta tb : TE} (h : VE c ta ρ S fun x S1 => VE c tb ρ S1 fun y S2 => RV c r x y S2 F) : VE c (tOp r ta tb) ρ S F := fun T σ H I Q k =>
  h T σ H I _ fun vx x S1 T1 H1 m1 c1 r1 h1 => h1 T1 σ H1 (I.mv m1 c1) _ fun vy y S2 T2 H2 m2 c2 r2 h2 => h2 T2 vx vy H2 c2 (r1.mv m2) r2 Q fun v d S3 T3 H3 m3 c3 r3 q => k v d S3 T3 H3 (m1.trans (m2.trans m3)) c3 r3 q
theorem ve_un {r : V → Hp → VK → Prop} {ta : TE} (h : VE c ta ρ S fun x S1 => RU c r x S1 F) : VE c (tUn r ta) ρ S F := fun T σ H I Q k =>
  h T σ H I _ fun vx x S1 T1 H1 m1 c1 r1 h1 => h1 T1 vx H1 c1 r1 Q fun v d S3 T3 H3 m3 c3 r3 q => k v d S3 T3 H3 (m1.trans m3) c3 r3 q
theorem ve_cb {r : CR1} {t : TA} (h : VA c t ρ S fun ds S1 => RC c r ds S1 F) : VE c (tCB r t) ρ S F := fun T σ H I Q k =>
  h T σ H I _ fun us ds S1 T1 H1 m1 c1 r1 h1 => h1 T1 us H1 c1 r1 Q fun v d S3 T3 H3 m3 c3 r3 q => k v d S3 T3 H3 (m1.trans m3) c3 r3 q
theorem va_nil {F : List D → Sto → Prop} (q : F [] S) : VA c tNil ρ S F := fun T σ H I Q k => k _ _ S T H Mv.refl I.cells .nil q
theorem va_cons {F : List D → Sto → Prop} {ta : TE} {t : TA} (h : VE c ta ρ S fun x S1 => VA c t ρ S1 fun xs S2 => F (x :: xs) S2) : VA c (tCons ta t) ρ S F := fun T σ H I Q k =>
  h T σ H I _ fun vx x S1 T1 H1 m1 c1 r1 h1 => h1 T1 σ H1 (I.mv m1 c1) _ fun vs ds S2 T2 H2 m2 c2 r2 h2 => k _ _ S2 T2 H2 (m1.trans m2) c2 (.cons (r1.mv m2) r2) h2
theorem ve_tup {t : TA} (h : VA c t ρ S fun ds S1 => ds.length ≤ sizeLine ∧ F (.tup ds) S1) : VE c (tTup t) ρ S F := fun T σ H I Q k =>
  h T σ H I _ fun us ds S1 T1 H1 m1 c1 r1 ⟨hl, q⟩ => ⟨by rw [r1.length]; exact hl, fun p hp => k _ _ S1 T1 _ (m1.trans (mv_new hp)) (c1.new hp) (.tup (c1.free hp) upd_same (r1.mv (mv_new hp))) q⟩
/-- a list, by value; by reference -/
theorem ve_lst {t : TA} (h : VA c t ρ S fun ds S1 => ds.length ≤ sizeLine ∧ F (.lst ds) S1) : VE c (tLst t) ρ S F := fun T σ H I Q k =>
  h T σ H I _ fun us ds S1 T1 H1 m1 c1 r1 ⟨hl, q⟩ => ⟨by rw [r1.length]; exact hl, fun p hp => k _ _ S1 T1 _ (m1.trans (mv_new hp)) (c1.new hp) (.lst (c1.free hp) upd_same (r1.mv (mv_new hp))) q⟩
theorem ve_lstc {t : TA} (h : VA c t ρ S fun ds S1 => ds.length ≤ sizeLine ∧ ∀ p, S1 p = none → F (.ref p) (put S1 p (.lst ds))) : VE c (tLst t) ρ S F := fun T σ H I Q k =>
  h T σ H I _ fun us ds S1 T1 H1 m1 c1 r1 ⟨hl, q⟩ => ⟨by rw [r1.length]; exact hl, fun p hp => k _ _ _ _ _ (m1.trans (mv_newc hp)) (c1.newc hp (cell_l upd_same (r1.mv (mv_newc hp)))) (.ref p) (q p (c1.freeS hp))⟩
theorem ve_if {t : TT} {ta tb : TE} (h : VT c t ρ S fun b S1 => (b = true → VE c ta ρ S1 F) ∧ (b = false → VE c tb ρ S1 F)) : VE c (tIf t ta tb) ρ S F := fun T σ H I Q k =>
  h T σ H I _ fun b S1 T1 H1 m1 c1 ⟨h1, h2⟩ => by
    cases b with
    | true => exact iteT (h1 rfl T1 σ H1 (I.mv m1 c1) Q fun v d S3 T3 H3 m3 => k v d S3 T3 H3 (m1.trans m3))
    | false => exact iteF (h2 rfl T1 σ H1 (I.mv m1 c1) Q fun v d S3 T3 H3 m3 => k v d S3 T3 H3 (m1.trans m3))
theorem ve_andV {ta tb : TE} (h : VE c ta ρ S fun x S1 => ∃ b, x = .bl b ∧ (b = true → VE c tb ρ S1 F) ∧ (b = false → F (.bl false) S1)) : VE c (tAndV ta tb) ρ S F := fun T σ H I Q k =>
  h T σ H I _ fun vx x S1 T1 H1 m1 c1 r1 ⟨b, e, h1, h2⟩ => by
    subst e
    cases r1
    refine ⟨b, rfl, ?_⟩
    cases b with
    | true => exact iteT (h1 rfl T1 σ H1 (I.mv m1 c1) Q fun v d S3 T3 H3 m3 => k v d S3 T3 H3 (m1.trans m3))
    | false => exact iteF (k _ _ S1 T1 H1 m1 c1 (.bl false) (h2 rfl))
theorem ve_orV {ta tb : TE} (h : VE c ta ρ S fun x S1 => ∃ b, x = .bl b ∧ (b = false → VE c tb ρ S1 F) ∧ (b = true → F (.bl true) S1)) : VE c (tOrV ta tb) ρ S F := fun T σ H I Q k =>
  h T σ H I _ fun vx x S1 T1 H1 m1 c1 r1 ⟨b, e, h1, h2⟩ => by
    subst e
    cases r1
    refine ⟨b, rfl, ?_⟩
    cases b with
    | true => exact iteT (k _ _ S1 T1 H1 m1 c1 (.bl true) (h2 rfl))
    | false => exact iteF (h1 rfl T1 σ H1 (I.mv m1 c1) Q fun v d S3 T3 H3 m3 => k v d S3 T3 H3 (m1.trans m3))
theorem ve_notV {ta : TE} (h : VE c ta ρ S fun x S1 => ∃ b, x = .bl b ∧ F (.bl (!b)) S1) : VE c (tNotV ta) ρ S F := fun T σ H I Q k =>
  h T σ H I _ fun vx x S1 T1 H1 m1 c1 r1 ⟨b, e, h1⟩ => by
    subst e
    cases r1
    exact ⟨b, rfl, k _ _ S1 T1 H1 m1 c1 (.bl _) h1⟩
theorem ve_chain {r r' : R2} {ta tb tc : TE} (h : VE c ta ρ S fun x S1 => VE c tb ρ S1 fun y S2 => RV c r x y S2 fun z S3 => ∃ k, z = .bl k ∧ (k = true → VE c tc ρ S3 fun w S4 => RV c r' y w S4 F) ∧ (k = false → F (.bl false) S3)) : VE c (tChain r r' ta tb tc) ρ S F := fun T σ H I Q k =>
  h T σ H I _ fun vx x S1 T1 H1 m1 c1 r1 h1 => h1 T1 σ H1 (I.mv m1 c1) _ fun vy y S2 T2 H2 m2 c2 r2 h2 => h2 T2 vx vy H2 c2 (r1.mv m2) r2 _ fun v d S3 T3 H3 m3 c3 r3 ⟨b, e, q1, q2⟩ => by
    subst e
    cases r3
    refine ⟨b, rfl, ?_⟩
    cases b with
    | true => exact iteT (q1 rfl T3 σ H3 (I.mv (m1.trans (m2.trans m3)) c3) _ fun vw w S4 T4 H4 m4 c4 r4 h4 => h4 T4 vy vw H4 c4 (r2.mv (m3.trans m4)) r4 Q fun v d S5 T5 H5 m5 => k v d S5 T5 H5 (m1.trans (m2.trans (m3.trans (m4.trans m5)))))
    | false => exact iteF (k _ _ S3 T3 H3 (m1.trans (m2.trans m3)) c3 (.bl false) (q2 rfl))
/-! ### tests -/
variable {G : Bool → Sto → Prop}
theorem vt_test {t : TE} (h : VE c t ρ S fun x S1 => ∃ b, x = .bl b ∧ G b S1) : VT c (tTest t) ρ S G := fun T σ H I Q k =>
  h T σ H I _ fun vx x S1 T1 H1 m1 c1 r1 ⟨b, e, h1⟩ => by
    subst e
    cases r1
    exact ⟨b, rfl, k b S1 T1 H1 m1 c1 h1⟩
theorem vt_B {t : TE} (h : VE c t ρ S fun x S1 => ∃ b, x = .bl b ∧ G b S1) : VT c (tB t) ρ S G := vt_test h
theorem vt_and {t u : TT} (h : VT c t ρ S fun b S1 => (b = true → VT c u ρ S1 G) ∧ (b = false → G false S1)) : VT c (tAnd t u) ρ S G := fun T σ H I Q k =>
  h T σ H I _ fun b S1 T1 H1 m1 c1 ⟨h1, h2⟩ => by
    cases b with
    | true => exact iteT (h1 rfl T1 σ H1 (I.mv m1 c1) Q fun b S3 T3 H3 m3 => k b S3 T3 H3 (m1.trans m3))
    | false => exact iteF (k false S1 T1 H1 m1 c1 (h2 rfl))
theorem vt_or {t u : TT} (h : VT c t ρ S fun b S1 => (b = true → G true S1) ∧ (b = false → VT c u ρ S1 G)) : VT c (tOr t u) ρ S G := fun T σ H I Q k =>
  h T σ H I _ fun b S1 T1 H1 m1 c1 ⟨h1, h2⟩ => by
    cases b with
    | true => exact iteT (k true S1 T1 H1 m1 c1 (h1 rfl))
    | false => exact iteF (h2 rfl T1 σ H1 (I.mv m1 c1) Q fun b S3 T3 H3 m3 => k b S3 T3 H3 (m1.trans m3))
theorem vt_not {t : TT} (h : VT c t ρ S fun b S1 => G (!b) S1) : VT c (tNot t) ρ S G := fun T σ H I Q k => h T σ H I _ fun b S1 T1 H1 m1 c1 h1 => k _ S1 T1 H1 m1 c1 h1
theorem vt_yes (h : G true S) : VT c tYes ρ S G := fun T σ H I Q k => k true S T H Mv.refl I.cells h
/-! ### weaker ends -/
theorem VE.imp {F' : D → Sto → Prop} {te : TE} (h : VE c te ρ S F) (i : ∀ d S, F d S → F' d S) : VE c te ρ S F' := fun T σ H I Q k => h T σ H I Q fun v d S' T' H' m cl r q => k v d S' T' H' m cl r (i _ _ q)
theorem VT.imp {G' : Bool → Sto → Prop} {te : TT} (h : VT c te ρ S G) (i : ∀ d S, G d S → G' d S) : VT c te ρ S G' := fun T σ H I Q k => h T σ H I Q fun v S' T' H' m cl q => k v S' T' H' m cl (i _ _ q)
/-! ### what a list is to be read of -/
inductive IsL (S : Sto) : D → List D → Prop
  | v {ds : List D} : IsL S (.lst ds) ds
  | r {ds : List D} : IsL S (.rol ds) ds
  | c {l : Addr} {ds : List D} (h : S l = some (.lst ds)) : IsL S (.ref l) ds
theorem IsL.rd {K : PySem.W.Frag} {H : Hp} {T : Sto} {x : D} {ds : List D} {u : V} (h : IsL S x ds) (cl : Cells K H S T) (r : Rep K H T u x) : ∃ a xs, u = .ref a ∧ SqL K H a xs ∧ RepL K H T xs ds := by
  cases h with
  | v => obtain ⟨a, xs, e, s, h, r⟩ := r.seqL; exact ⟨a, xs, e, .of h, r⟩
  | r => obtain ⟨a, xs, e, h, r⟩ := r.seqR; exact ⟨a, xs, e, h _ _ Mv.refl, r⟩
  | c h => cases r; obtain ⟨xs, h1, r⟩ := cl.ok _ _ (cl.at h); exact ⟨_, xs, rfl, .of h1, r⟩
/-- a list that may be added to another one -/
inductive IsA (S : Sto) : D → List D → Prop
  | v {ds : List D} : IsA S (.lst ds) ds
  | c {l : Addr} {ds : List D} (h : S l = some (.lst ds)) : IsA S (.ref l) ds
theorem IsA.rd {K : PySem.W.Frag} {H : Hp} {T : Sto} {x : D} {ds : List D} {u : V} (h : IsA S x ds) (cl : Cells K H S T) (r : Rep K H T u x) : ∃ a xs, u = .ref a ∧ H a = some (.lst xs) ∧ RepL K H T xs ds := by
  cases h with
  | v => obtain ⟨a, xs, e, s, h, r⟩ := r.seqL; exact ⟨a, xs, e, h, r⟩
  | c h => cases r; obtain ⟨xs, h1, r⟩ := cl.ok _ _ (cl.at h); exact ⟨_, xs, rfl, h1, r⟩
inductive IsQ (S : Sto) : D → List D → Prop
  | l {x : D} {ds : List D} (h : IsL S x ds) : IsQ S x ds
  | t {ds : List D} : IsQ S (.tup ds) ds
theorem IsQ.rd {K : PySem.W.Frag} {H : Hp} {T : Sto} {x : D} {ds : List D} {u : V} (h : IsQ S x ds) (cl : Cells K H S T) (r : Rep K H T u x) : ∃ a xs, u = .ref a ∧ (SqL K H a xs ∨ SqT K H a xs) ∧ RepL K H T xs ds := by
  cases h with
  | l h => obtain ⟨a, xs, e, s, r⟩ := h.rd cl r; exact ⟨a, xs, e, .inl s, r⟩
  | t => obtain ⟨a, xs, e, s, r⟩ := r.seqT; exact ⟨a, xs, e, .inr s, r⟩
/-! ### operations by value -/
theorem rv_II {g : Int → Int → Int} {i j : Int} (q : F (.int (g i j)) S) : RV c (rI0 fun i j => .int (g i j)) (.int i) (.int j) S F := fun T u w H cl r1 r2 Q k => by
  cases r1; cases r2; exact ⟨i, j, rfl, rfl, k _ _ S T H Mv.refl cl (.int _) q⟩
theorem rv_IB {g : Int → Int → Bool} {i j : Int} (q : F (.bl (g i j)) S) : RV c (rI0 fun i j => .bl (g i j)) (.int i) (.int j) S F := fun T u w H cl r1 r2 Q k => by
  cases r1; cases r2; exact ⟨i, j, rfl, rfl, k _ _ S T H Mv.refl cl (.bl _) q⟩
theorem rv_IC {C : Int → Int → Prop} {g : Int → Int → Int} {i j : Int} (hc : C i j) (q : F (.int (g i j)) S) : RV c (rI C fun i j => .int (g i j)) (.int i) (.int j) S F := fun T u w H cl r1 r2 Q k => by
  cases r1; cases r2; exact ⟨i, j, rfl, rfl, hc, k _ _ S T H Mv.refl cl (.int _) q⟩
theorem ru_I {g : Int → Int} {i : Int} (q : F (.int (g i)) S) : RU c (rU fun i => .int (g i)) (.int i) S F := fun T u H cl r1 Q k => by
  cases r1; exact ⟨i, rfl, k _ _ S T H Mv.refl cl (.int _) q⟩
/-- == and != of ints, texts, truths, None -/
def sEq : D → D → Option Bool
  | .int i, .int j => some (decide (i = j))
  | .str i, .str j => some (decide (i = j))
  | .bl i, .bl j => some (decide (i = j))
  | .non, .non => some true
  | .non, .int _ => some false | .int _, .non => some false | .non, .bl _ => some false | .bl _, .non => some false
  | .non, .str _ => some false | .str _, .non => some false | .int _, .str _ => some false | .str _, .int _ => some false
  | .bl _, .str _ => some false | .str _, .bl _ => some false
  | _, _ => none
theorem sEq_ok {K : PySem.W.Frag} {H : Hp} {x y : D} {u w : V} {b : Bool} (h : sEq x y = some b) (r1 : Rep K H S u x) (r2 : Rep K H S w y) : scal u w = true ∧ decide (u = w) = b := by
  cases r1 <;> cases r2 <;> first | (cases h; done) | (cases h; refine ⟨rfl, ?_⟩; first | rfl | simp)
theorem rv_eq {x y : D} {b : Bool} (h : sEq x y = some b) (q : F (.bl b) S) : RV c rEq x y S F := fun T u w H cl r1 r2 Q k => by
  obtain ⟨h1, h2⟩ := sEq_ok h r1 r2
  exact ⟨h1, by rw [h2]; exact k _ _ S T H Mv.refl cl (.bl _) q⟩
theorem rv_ne {x y : D} {b : Bool} (h : sEq x y = some b) (q : F (.bl (!b)) S) : RV c rNe x y S F := fun T u w H cl r1 r2 Q k => by
  obtain ⟨h1, h2⟩ := sEq_ok h r1 r2
  exact ⟨h1, by rw [h2]; exact k _ _ S T H Mv.refl cl (.bl _) q⟩
def isNoD : D → Bool
  | .non => true
  | _ => false
theorem isNo_ok {K : PySem.W.Frag} {H : Hp} {x : D} {u : V} (r : Rep K H S u x) : decide (u = V.non) = isNoD x := by
  cases r <;> first | rfl | (show decide _ = false; simp)
theorem rv_isNo {x : D} (q : F (.bl (isNoD x)) S) : RV c rIsNo x .non S F := fun T u w H cl r1 r2 Q k => by
  cases r2; exact ⟨rfl, by rw [isNo_ok r1]; exact k _ _ S T H Mv.refl cl (.bl _) q⟩
theorem rv_notNo {x : D} (q : F (.bl (!isNoD x)) S) : RV c rNotNo x .non S F := fun T u w H cl r1 r2 Q k => by
  cases r2; exact ⟨rfl, by rw [isNo_ok r1]; exact k _ _ S T H Mv.refl cl (.bl _) q⟩
theorem RepL.at {K : PySem.W.Frag} {H : Hp} {xs : List V} {ds : List D} {i : Int} (r : RepL K H S xs ds) (h : atI ds i = some d) : ∃ v, atI xs i = some v ∧ Rep K H S v d := by
  unfold atI at h ⊢
  rw [r.length]
  cases e : ixN ds.length i with
  | none => rw [e] at h; cases h
  | some j => rw [e] at h; exact r.get h
theorem rv_ixL {x : D} {ds : List D} {i : Int} (h : IsL S x ds) (e : atI ds i = some d) (q : F d S) : RV c (rIxL c.K) x (.int i) S F := fun T u w H cl r1 r2 Q k => by
  cases r2
  obtain ⟨a, xs, rfl, s, r⟩ := h.rd cl r1
  obtain ⟨v, h1, h2⟩ := r.at e
  exact ⟨a, xs, i, v, rfl, rfl, s, h1, k _ _ S T H Mv.refl cl h2 q⟩
theorem rv_ixT {ds : List D} {i : Int} (e : atI ds i = some d) (q : F d S) : RV c (rIxT c.K) (.tup ds) (.int i) S F := fun T u w H cl r1 r2 Q k => by
  cases r2
  obtain ⟨a, xs, rfl, s, r⟩ := r1.seqT
  obtain ⟨v, h1, h2⟩ := r.at e
  exact ⟨a, xs, i, v, rfl, rfl, s, h1, k _ _ S T H Mv.refl cl h2 q⟩
theorem rv_ixS {z : Str} {i : Int} {n : Nat} (hz : z.length ≤ sizeLine) (e : atI z.cps.toList i = some n) (q : F (.str ⟨#[n]⟩) S) : RV c rIxS (.str z) (.int i) S F := fun T u w H cl r1 r2 Q k => by
  cases r1; cases r2; exact ⟨z, i, n, rfl, rfl, hz, e, k _ _ S T H Mv.refl cl (.str _) q⟩
theorem rv_addS {x y : Str} (h : x.length + y.length ≤ sizeLine) (q : F (.str (x ++ y)) S) : RV c rAddStr (.str x) (.str y) S F := fun T u w H cl r1 r2 Q k => by
  cases r1; cases r2; exact ⟨x, y, rfl, rfl, h, k _ _ S T H Mv.refl cl (.str _) q⟩
theorem rv_ltS {x y : Str} (q : F (.bl (decide (x.cps.toList < y.cps.toList))) S) : RV c rLtStr (.str x) (.str y) S F := fun T u w H cl r1 r2 Q k => by
  cases r1; cases r2; exact ⟨x, y, rfl, rfl, k _ _ S T H Mv.refl cl (.bl _) q⟩
theorem rv_leS {x y : Str} (q : F (.bl (!decide (y.cps.toList < x.cps.toList))) S) : RV c rLeStr (.str x) (.str y) S F := fun T u w H cl r1 r2 Q k => by
  cases r1; cases r2; exact ⟨x, y, rfl, rfl, k _ _ S T H Mv.refl cl (.bl _) q⟩
theorem found_one (x : Str) (n : Nat) : (!(Builtin.Str.occurrences x ⟨#[n]⟩ 0 x.length 1).isEmpty) = decide (n ∈ x.cps.toList) := StrLaws.found_one x n
theorem rv_inS {n : Nat} {y : Str} (q : F (.bl (decide (n ∈ y.cps.toList))) S) : RV c rInStr (.str ⟨#[n]⟩) (.str y) S F := fun T u w H cl r1 r2 Q k => by
  cases r1; cases r2; exact ⟨_, y, rfl, rfl, by rw [found_one]; exact k _ _ S T H Mv.refl cl (.bl _) q⟩
theorem rv_notInS {n : Nat} {y : Str} (q : F (.bl (!decide (n ∈ y.cps.toList))) S) : RV c rNotInStr (.str ⟨#[n]⟩) (.str y) S F := fun T u w H cl r1 r2 Q k => by
  cases r1; cases r2; exact ⟨_, y, rfl, rfl, by rw [found_one]; exact k _ _ S T H Mv.refl cl (.bl _) q⟩
theorem rv_cat {x y : D} {ds es : List D} (h1 : IsA S x ds) (h2 : IsA S y es) (hl : ds.length + es.length ≤ sizeLine) (q : F (.lst (ds ++ es)) S) : RV c rCat x y S F := fun T u w H cl r1 r2 Q k => by
  obtain ⟨a, xs, rfl, s, r⟩ := h1.rd cl r1
  obtain ⟨b, zs, rfl, s', r'⟩ := h2.rd cl r2
  exact ⟨a, b, xs, zs, rfl, rfl, s, s', by rw [r.length, r'.length]; exact hl, fun p hp => k _ _ S T _ (mv_new hp) (cl.new hp) (.lst (cl.free hp) upd_same ((r.append r').mv (mv_new hp))) q⟩
theorem rv_catc {x y : D} {ds es : List D} (h1 : IsA S x ds) (h2 : IsA S y es) (hl : ds.length + es.length ≤ sizeLine) (q : ∀ p, S p = none → F (.ref p) (put S p (.lst (ds ++ es)))) : RV c rCat x y S F := fun T u w H cl r1 r2 Q k => by
  obtain ⟨a, xs, rfl, s, r⟩ := h1.rd cl r1
  obtain ⟨b, zs, rfl, s', r'⟩ := h2.rd cl r2
  exact ⟨a, b, xs, zs, rfl, rfl, s, s', by rw [r.length, r'.length]; exact hl, fun p hp => k _ _ _ _ _ (mv_newc hp) (cl.newc hp (cell_l upd_same ((r.append r').mv (mv_newc hp)))) (.ref p) (q p (cl.freeS hp))⟩
/-- flat values, in a row -/
def flatD : D → Bool
  | .non => true | .bl _ => true | .int _ => true | .str _ => true | _ => false
def eqD : D → D → Bool
  | .non, .non => true
  | .bl a, .bl b => a == b
  | .bl a, .int b => (if a then 1 else 0) == b
  | .int a, .bl b => a == (if b then 1 else 0)
  | .int a, .int b => a == b
  | .str a, .str b => a == b
  | _, _ => false
def inD (x : D) (xs : List D) : Bool := xs.any fun y => eqD y x
theorem flat_ok {K : PySem.W.Frag} {H : Hp} {x : D} {u : V} (r : Rep K H S u x) : flatV u = flatD x := by cases r <;> rfl
theorem eq_ok {K : PySem.W.Frag} {H : Hp} {x y : D} {u w : V} (r : Rep K H S u x) (r' : Rep K H S w y) : eqV u w = eqD x y := by cases r <;> cases r' <;> rfl
theorem RepL.flat {K : PySem.W.Frag} {H : Hp} : ∀ {xs : List V} {ds : List D}, RepL K H S xs ds → xs.all flatV = ds.all flatD
  | _, _, .nil => rfl
  | _, _, .cons h t => by rw [List.all_cons, List.all_cons, flat_ok h, RepL.flat t]
theorem RepL.inV {K : PySem.W.Frag} {H : Hp} {x : D} {u : V} (r : Rep K H S u x) : ∀ {xs : List V} {ds : List D}, RepL K H S xs ds → L2.inV u xs = inD x ds
  | _, _, .nil => rfl
  | _, _, .cons h t => by
    have e := RepL.inV r t
    unfold L2.inV inD at *
    rw [List.any_cons, List.any_cons, eq_ok h r, e]
theorem rv_in {neg : Bool} {x y : D} {ds : List D} (h : IsQ S y ds) (h1 : flatD x = true) (h2 : ds.all flatD = true) (q : F (.bl (if neg then !inD x ds else inD x ds)) S) : RV c (rIn c.K neg) x y S F := fun T u w H cl r1 r2 Q k => by
  obtain ⟨a, xs, rfl, s, r⟩ := h.rd cl r2
  exact ⟨a, xs, rfl, s, by rw [flat_ok r1]; exact h1, by rw [r.flat]; exact h2, by rw [RepL.inV r1 r]; exact k _ _ S T H Mv.refl cl (.bl _) q⟩
/-! ### calls of built-ins -/
theorem rc_lenQ {x : D} {ds : List D} (h : IsQ S x ds) (q : F (.int ds.length) S) : RC c (rLen c.K) [x] S F := fun T us H cl r Q k => by
  cases r with
  | cons h1 t =>
    cases t
    obtain ⟨a, xs, rfl, s, r⟩ := h.rd cl h1
    refine ⟨_, ds.length, rfl, ?_, k _ _ S T H Mv.refl cl (.int _) q⟩
    rcases s with s | s
    · exact .inl ⟨xs, s, r.length.symm⟩
    · exact .inr ⟨xs, s, r.length.symm⟩
theorem rc_lenS {x : Str} (h : x.length ≤ sizeLine) (q : F (.int x.length) S) : RC c (rLen c.K) [.str x] S F := fun T us H cl r Q k => by
  cases r with
  | cons h1 t => cases t; cases h1; exact ⟨_, _, rfl, ⟨h, rfl⟩, k _ _ S T H Mv.refl cl (.int _) q⟩
theorem rc_abs {i : Int} (q : F (.int (if i < 0 then -i else i)) S) : RC c rAbs [.int i] S F := fun T us H cl r Q k => by
  cases r with
  | cons h1 t => cases t; cases h1; exact ⟨_, rfl, k _ _ S T H Mv.refl cl (.int _) q⟩
theorem rc_max2 {i j : Int} (q : F (.int (if j > i then j else i)) S) : RC c rMax2 [.int i, .int j] S F := fun T us H cl r Q k => by
  cases r with
  | cons h1 t => cases t with
    | cons h2 t => cases t; cases h1; cases h2; exact ⟨_, _, rfl, k _ _ S T H Mv.refl cl (.int _) q⟩
theorem rc_min2 {i j : Int} (q : F (.int (if j < i then j else i)) S) : RC c rMin2 [.int i, .int j] S F := fun T us H cl r Q k => by
  cases r with
  | cons h1 t => cases t with
    | cons h2 t => cases t; cases h1; cases h2; exact ⟨_, _, rfl, k _ _ S T H Mv.refl cl (.int _) q⟩
theorem rc_int {i : Int} (q : F (.int i) S) : RC c rInt1 [.int i] S F := fun T us H cl r Q k => by
  cases r with
  | cons h1 t => cases t; cases h1; exact .inl ⟨_, rfl, k _ _ S T H Mv.refl cl (.int _) q⟩
theorem rc_intB {b : Bool} (q : F (.int (if b then 1 else 0)) S) : RC c rInt1 [.bl b] S F := fun T us H cl r Q k => by
  cases r with
  | cons h1 t => cases t; cases h1; exact .inr ⟨_, rfl, k _ _ S T H Mv.refl cl (.int _) q⟩
theorem rc_strI {i : Int} (h : i.natAbs.log2 < 1920) (q : F (.str (toString i)) S) : RC c rStrInt [.int i] S F := fun T us H cl r Q k => by
  cases r with
  | cons h1 t => cases t; cases h1; exact ⟨_, rfl, h, k _ _ S T H Mv.refl cl (.str _) q⟩
theorem rc_ord {n : Nat} (q : F (.int n) S) : RC c rOrd [.str ⟨#[n]⟩] S F := fun T us H cl r Q k => by
  cases r with
  | cons h1 t => cases t; cases h1; exact ⟨_, rfl, rfl, k _ _ S T H Mv.refl cl (.int _) q⟩
theorem rc_list {x : D} {ds : List D} (h : IsQ S x ds) (q : F (.lst ds) S) : RC c (rListOf c.K) [x] S F := fun T us H cl r Q k => by
  cases r with
  | cons h1 t =>
    cases t
    obtain ⟨a, xs, rfl, s, r⟩ := h.rd cl h1
    exact ⟨a, xs, rfl, s, fun p hp => k _ _ S T _ (mv_new hp) (cl.new hp) (.lst (cl.free hp) upd_same (r.mv (mv_new hp))) q⟩
theorem rc_listc {x : D} {ds : List D} (h : IsQ S x ds) (q : ∀ p, S p = none → F (.ref p) (put S p (.lst ds))) : RC c (rListOf c.K) [x] S F := fun T us H cl r Q k => by
  cases r with
  | cons h1 t =>
    cases t
    obtain ⟨a, xs, rfl, s, r⟩ := h.rd cl h1
    exact ⟨a, xs, rfl, s, fun p hp => k _ _ _ _ _ (mv_newc hp) (cl.newc hp (cell_l upd_same (r.mv (mv_newc hp)))) (.ref p) (q p (cl.freeS hp))⟩
theorem rc_tupleL {x : D} {ds : List D} (h : IsL S x ds) (q : F (.tup ds) S) : RC c (rTupleOf c.K) [x] S F := fun T us H cl r Q k => by
  cases r with
  | cons h1 t =>
    cases t
    obtain ⟨a, xs, rfl, s, r⟩ := h.rd cl h1
    exact ⟨a, xs, rfl, .inl ⟨s, fun p hp => k _ _ S T _ (mv_new hp) (cl.new hp) (.tup (cl.free hp) upd_same (r.mv (mv_new hp))) q⟩⟩
theorem rc_all {bs : List Bool} {x : D} (h : IsL S x (bs.map D.bl)) (q : F (.bl (bs.all id)) S) : RC c (rAll c.K) [x] S F := fun T us H cl r Q k => by
  cases r with
  | cons h1 t =>
    cases t
    obtain ⟨a, xs, rfl, s, r⟩ := h.rd cl h1
    have e := r.bls
    subst e
    exact ⟨a, bs, rfl, s, k _ _ S T H Mv.refl cl (.bl _) q⟩
theorem rc_sum {ns : List Int} {x : D} (h : IsL S x (ns.map D.int)) (q : F (.int ns.sum) S) : RC c (rSum c.K) [x] S F := fun T us H cl r Q k => by
  cases r with
  | cons h1 t =>
    cases t
    obtain ⟨a, xs, rfl, s, r⟩ := h.rd cl h1
    have e := r.ints
    subst e
    exact ⟨a, ns, rfl, s, k _ _ S T H Mv.refl cl (.int _) q⟩
/-- isinstance by a built-in class -/
inductive TyS (S : Sto) : D → String → Prop
  | non : TyS S .non "NoneType" | bl (b : Bool) : TyS S (.bl b) "bool" | int (i : Int) : TyS S (.int i) "int" | str (x : Str) : TyS S (.str x) "str"
  | rol (ds : List D) : TyS S (.rol ds) "list" | lst (ds : List D) : TyS S (.lst ds) "list" | tup (ds : List D) : TyS S (.tup ds) "tuple" | dK (ds : List (Key × D)) : TyS S (.dK ds) "dict"
  | cl {l : Addr} {ds : List D} (h : S l = some (.lst ds)) : TyS S (.ref l) "list" | cd {l : Addr} {ds : List (Key × D)} (h : S l = some (.dK ds)) : TyS S (.ref l) "dict"
theorem TyS.ok {K : PySem.W.Frag} {H : Hp} {T : Sto} {x : D} {n : String} {u : V} (t : TyS S x n) (cl : Cells K H S T) (r : Rep K H T u x) : TyX K H u (.type n) := by
  cases t with
  | non => cases r; exact .base .non
  | bl => cases r; exact .base (.bl _)
  | int => cases r; exact .base (.int _)
  | str => cases r; exact .base (.str _)
  | rol =>
    cases r with
    | rol _ h _ => exact .base (.frz h)
    | rolK h _ => obtain ⟨o, its, n, h1, h2, _⟩ := h; exact .kList h1 h2
  | lst => cases r with | lst _ h _ => exact .base (.lst h)
  | tup =>
    cases r with
    | tup _ h _ => exact .base (.tup h)
    | tupK h _ => obtain ⟨o, its, n, h1, h2, _⟩ := h; exact .kTuple h1 h2
  | dK => cases r with | dK _ h _ => exact h.elim (fun h => .base (.dK h)) fun ⟨_, h⟩ => .fDict h
  | cl h => cases r; obtain ⟨xs, h1, _⟩ := cl.ok _ _ (cl.at h); exact .base (.lst h1)
  | cd h => cases r; obtain ⟨xs, h1, _⟩ := cl.ok _ _ (cl.at h); exact .base (.dK h1)
theorem rc_isi {x : D} {n N : String} {b : Bool} (t : TyS S x n) (h : kitB n N = some b) (q : F (.bl b) S) : RC c (rIsiZ c.K) [x, .ty N] S F := fun T us H cl r Q k => by
  cases r with
  | cons h1 r => cases r with
    | cons h2 r =>
      cases r
      cases h2
      exact ⟨_, _, _, _, b, rfl, .ty N, TyZ.x (t.ok cl h1), kit_ty h, k _ _ S T H Mv.refl cl (.bl _) q⟩
/-! ### methods of built-ins -/
theorem ve_m1 {r : MR1} {to te : TE} (h : VE c to ρ S fun x S1 => ∃ z, x = .str z ∧ VE c te ρ S1 fun y S2 => RM c r (.str z) [y] S2 F) : VE c (tM1 r to te) ρ S F := fun T σ H I Q k =>
  h T σ H I _ fun vx x S1 T1 H1 m1 c1 r1 ⟨z, e, h1⟩ => by
    subst e
    cases r1
    exact ⟨⟨z, rfl⟩, h1 T1 σ H1 (I.mv m1 c1) _ fun vy y S2 T2 H2 m2 c2 r2 h2 => h2 T2 _ _ H2 c2 (.str z) (.cons r2 .nil) Q fun v d S3 T3 H3 m3 c3 r3 q => k v d S3 T3 H3 (m1.trans (m2.trans m3)) c3 r3 q⟩
theorem ve_m0 {r : MR1} {to : TE} (h : VE c to ρ S fun x S1 => ∃ z, x = .str z ∧ RM c r (.str z) [] S1 F) : VE c (tM0 r to) ρ S F := fun T σ H I Q k =>
  h T σ H I _ fun vx x S1 T1 H1 m1 c1 r1 ⟨z, e, h1⟩ => by
    subst e
    cases r1
    exact ⟨⟨z, rfl⟩, h1 T1 _ _ H1 c1 (.str z) .nil Q fun v d S3 T3 H3 m3 c3 r3 q => k v d S3 T3 H3 (m1.trans m3) c3 r3 q⟩
theorem rm_join {a : Str} {x : D} {ys : List Str} (h : IsQ S x (ys.map D.str)) (hl : (ys.map (·.length)).sum + ys.length * a.length ≤ 16777216) (q : F (.str (Txt.join a ys)) S) : RM c (rJoin c.K) (.str a) [x] S F := fun T u us H cl r1 r2 Q k => by
  cases r1
  cases r2 with
  | cons h1 t =>
    cases t
    obtain ⟨p, xs, rfl, s, r⟩ := h.rd cl h1
    have e := r.strs
    subst e
    exact ⟨a, p, ys, rfl, rfl, s, hl, k _ _ S T H Mv.refl cl (.str _) q⟩
/-- a method of a list that is known by reference -/
theorem ve_bm {r : MR1} {to : TE} {t : TA} (h : VE c to ρ S fun x S1 => ∃ l ds, x = .ref l ∧ S1 l = some (.lst ds) ∧ VA c t ρ S1 fun es S2 => RM c r (.ref l) es S2 F) : VE c (tBM c.K "list" r to t) ρ S F := fun T σ H I Q k =>
  h T σ H I _ fun vx x S1 T1 H1 m1 c1 r1 ⟨l, ds, e, hl, h1⟩ => by
    subst e
    cases r1
    obtain ⟨xs, hx, _⟩ := c1.ok _ _ (c1.at hl)
    exact ⟨.inl ⟨rfl, xs, .of hx⟩, h1 T1 σ H1 (I.mv m1 c1) _ fun vs es S2 T2 H2 m2 c2 r2 h2 => h2 T2 _ vs H2 c2 (.ref l) r2 Q fun v d S3 T3 H3 m3 c3 r3 q => k v d S3 T3 H3 (m1.trans (m2.trans m3)) c3 r3 q⟩
theorem ve_bm0 {r : MR1} {to : TE} (h : VE c to ρ S fun x S1 => ∃ l ds, x = .ref l ∧ S1 l = some (.lst ds) ∧ RM c r (.ref l) [] S1 F) : VE c (tBM0 c.K "list" r to) ρ S F := fun T σ H I Q k =>
  h T σ H I _ fun vx x S1 T1 H1 m1 c1 r1 ⟨l, ds, e, hl, h1⟩ => by
    subst e
    cases r1
    obtain ⟨xs, hx, _⟩ := c1.ok _ _ (c1.at hl)
    exact ⟨.inl ⟨rfl, xs, .of hx⟩, h1 T1 _ _ H1 c1 (.ref l) .nil Q fun v d S3 T3 H3 m3 c3 r3 q => k v d S3 T3 H3 (m1.trans m3) c3 r3 q⟩
theorem rm_append {l : Addr} {ds : List D} {x : D} (h : S l = some (.lst ds)) (hl : ds.length < sizeLine) (q : F .non (put S l (.lst (ds ++ [x])))) : RM c rAppend (.ref l) [x] S F := fun T u us H cl r1 r2 Q k => by
  cases r1
  cases r2 with
  | cons h1 t =>
    cases t
    obtain ⟨xs, hx, r⟩ := cl.ok _ _ (cl.at h)
    exact ⟨l, xs, _, rfl, rfl, hx, by rw [r.length]; exact hl, k _ _ _ _ _ (mv_wr (cl.at h)) (cl.wr (cl.at h) (cell_l upd_same ((r.append (.cons h1 .nil)).mv (mv_wr (cl.at h))))) .non q⟩
theorem rm_popAt {l : Addr} {ds : List D} {i : Int} {j : Nat} (h : S l = some (.lst ds)) (hj : i = (j : Int)) (hlt : j < 2 ^ 62) (e : ds[j]? = some d) (q : F d (put S l (.lst (ds.eraseIdx j)))) : RM c rPopAt (.ref l) [.int i] S F := fun T u us H cl r1 r2 Q k => by
  subst hj
  cases r1
  cases r2 with
  | cons h1 t =>
    cases t
    cases h1
    obtain ⟨xs, hx, r⟩ := cl.ok _ _ (cl.at h)
    obtain ⟨v, e1, e2⟩ := r.get e
    have hb : j < xs.length := (List.getElem?_eq_some_iff.mp e1).1
    have hs : seqIndex? (j : Int) xs.length = some j := (ixN_seq (by unfold ixN; rw [if_pos (by omega), if_pos (by omega)]; simp)).1
    exact ⟨l, xs, (j : Int), j, v, rfl, rfl, hx, by omega, by omega, hs, e1, k _ _ _ _ _ (mv_wr (cl.at h)) (cl.wr (cl.at h) (cell_l upd_same ((r.eraseIdx j).mv (mv_wr (cl.at h))))) (e2.mv (mv_wr (cl.at h))) q⟩
/-! ### slices -/
theorem vo_none {F : Option Int → Sto → Prop} (q : F none S) : VO c tNoPart ρ S F := fun T σ H I Q k => k none S T H Mv.refl I.cells q
theorem vo_some {F : Option Int → Sto → Prop} {te : TE} (h : VE c te ρ S fun x S1 => ∃ i, x = .int i ∧ F (some i) S1) : VO c (tPart te) ρ S F := fun T σ H I Q k =>
  h T σ H I _ fun vx x S1 T1 H1 m1 c1 r1 ⟨i, e, q⟩ => by
    subst e
    cases r1
    exact ⟨i, rfl, k _ S1 T1 H1 m1 c1 q⟩
def RS (c : Ctx) (r : V → Option Int → Option Int → Hp → VK → Prop) (x : D) (lo hi : Option Int) (S : Sto) (F : D → Sto → Prop) : Prop := ∀ T u H, Cells c.K H S T → Rep c.K H T u x → ∀ Q : VK,
  (∀ v d S' T' H', Mv T H T' H' → Cells c.K H' S' T' → Rep c.K H' T' v d → F d S' → Q v H') → r u lo hi H Q
theorem ve_sl {r : V → Option Int → Option Int → Hp → VK → Prop} {te : TE} {tl th : TO} (h : VE c te ρ S fun x S1 => VO c tl ρ S1 fun lo S2 => VO c th ρ S2 fun hi S3 => RS c r x lo hi S3 F) : VE c (tSl r te tl th) ρ S F := fun T σ H I Q k =>
  h T σ H I _ fun vx x S1 T1 H1 m1 c1 r1 h1 => h1 T1 σ H1 (I.mv m1 c1) _ fun lo S2 T2 H2 m2 c2 h2 => h2 T2 σ H2 (I.mv (m1.trans m2) c2) _ fun hi S3 T3 H3 m3 c3 h3 => h3 T3 vx H3 c3 (r1.mv (m2.trans m3)) Q fun v d S4 T4 H4 m4 => k v d S4 T4 H4 (m1.trans (m2.trans (m3.trans m4)))
theorem rs_str {z : Str} {lo hi : Option Int} (hz : z.length ≤ sizeLine) (q : F (.str (cutS z lo hi)) S) : RS c rSlS (.str z) lo hi S F := fun T u H cl r Q k => by
  cases r; exact ⟨z, rfl, hz, k _ _ S T H Mv.refl cl (.str _) q⟩
def cutD (xs : List D) (lo hi : Option Int) : List D := (xs.drop (HT.sIx xs.length 0 lo)).take (HT.sIx xs.length xs.length hi - HT.sIx xs.length 0 lo)
theorem RepL.cut {K : PySem.W.Frag} {H : Hp} {xs : List V} {ds : List D} (r : RepL K H S xs ds) (lo hi : Option Int) : RepL K H S (cutV xs lo hi) (cutD ds lo hi) := by
  unfold cutV cutD
  rw [r.length]
  exact (r.drop _).take _
theorem rs_list {x : D} {ds : List D} {lo hi : Option Int} (h : IsL S x ds) (q : F (.lst (cutD ds lo hi)) S) : RS c (rSlL c.K) x lo hi S F := fun T u H cl r Q k => by
  obtain ⟨a, xs, rfl, s, r⟩ := h.rd cl r
  exact ⟨a, xs, rfl, s, fun p hp => k _ _ S T _ (mv_new hp) (cl.new hp) (.lst (cl.free hp) upd_same ((r.cut lo hi).mv (mv_new hp))) q⟩
theorem rs_listc {x : D} {ds : List D} {lo hi : Option Int} (h : IsL S x ds) (q : ∀ p, S p = none → F (.ref p) (put S p (.lst (cutD ds lo hi)))) : RS c (rSlL c.K) x lo hi S F := fun T u H cl r Q k => by
  obtain ⟨a, xs, rfl, s, r⟩ := h.rd cl r
  exact ⟨a, xs, rfl, s, fun p hp => k _ _ _ _ _ (mv_newc hp) (cl.newc hp (cell_l upd_same ((r.cut lo hi).mv (mv_newc hp)))) (.ref p) (q p (cl.freeS hp))⟩
/-! ### calls of defs -/
/-- a def's promise by value: from the arguments and what is known by reference to what is wanted of the value, of an exception -/
abbrev Pt := List D → Sto → (D → Sto → Prop) → (Addr → List (Str × D) → Sto → Prop) → Prop
def spOf (K : PySem.W.Frag) (p : Pt) : Sp := fun vs H Q E => ∃ ds S T F Y, RepL K H T vs ds ∧ Cells K H S T ∧ p ds S F Y ∧
  (∀ v d S' T' H', Mv T H T' H' → Cells K H' S' T' → Rep K H' T' v d → F d S' → Q v H') ∧
  (∀ (C : Addr) (x : Option Addr) (fs : List (Str × D)) (S' T' : Sto) (H' : Hp), Mv T H T' H' → Cells K H' S' T' → XRep K H' T' x fs → Y C fs S' → E (.ref C) x H')
abbrev noY : Addr → List (Str × D) → Sto → Prop := fun _ _ _ => False
/-! ### statements -/
variable {P : Po}
theorem vx_next {nx bk ct : Rho → Sto → Prop} {rt : D → Sto → Prop} (q : nx ρ S) : VX c tNext ρ S ⟨nx, rt, bk, ct⟩ := fun T σ H I D b => b.nx σ ρ S T H Mv.refl I q
theorem vx_break {nx bk ct : Rho → Sto → Prop} {rt : D → Sto → Prop} (q : bk ρ S) : VX c tBreak ρ S ⟨nx, rt, bk, ct⟩ := fun T σ H I D b => b.bk σ ρ S T H Mv.refl I q
theorem vx_cont {nx bk ct : Rho → Sto → Prop} {rt : D → Sto → Prop} (q : ct ρ S) : VX c tCont ρ S ⟨nx, rt, bk, ct⟩ := fun T σ H I D b => b.ct σ ρ S T H Mv.refl I q
theorem vx_seq {t u : TS} {nx bk ct : Rho → Sto → Prop} {rt : D → Sto → Prop} (h : VX c t ρ S ⟨fun ρ1 S1 => VX c u ρ1 S1 ⟨nx, rt, bk, ct⟩, rt, bk, ct⟩) : VX c (tSeq t u) ρ S ⟨nx, rt, bk, ct⟩ := fun T σ H I D b =>
  h T σ H I _ ⟨fun σ' ρ' S' T' H' m I' q => q T' σ' H' I' D (b.mv m), b.rt, b.bk, b.ct⟩
theorem VX.imp {t : TS} {P' : Po} (h : VX c t ρ S P) (n : ∀ ρ S, P.nx ρ S → P'.nx ρ S) (r : ∀ d S, P.rt d S → P'.rt d S) (bk : ∀ ρ S, P.bk ρ S → P'.bk ρ S) (ct : ∀ ρ S, P.ct ρ S → P'.ct ρ S) : VX c t ρ S P' := fun T σ H I D b =>
  h T σ H I D ⟨fun σ' ρ' S' T' H' m I' q => b.nx σ' ρ' S' T' H' m I' (n _ _ q), fun v d S' T' H' m cl rr q => b.rt v d S' T' H' m cl rr (r _ _ q), fun σ' ρ' S' T' H' m I' q => b.bk σ' ρ' S' T' H' m I' (bk _ _ q), fun σ' ρ' S' T' H' m I' q => b.ct σ' ρ' S' T' H' m I' (ct _ _ q)⟩
theorem vx_asg {te : TE} {g : TG} {nx bk ct : Rho → Sto → Prop} {rt : D → Sto → Prop} (h : VE c te ρ S fun x S1 => VG c g x ρ S1 nx) : VX c (tAsg te g) ρ S ⟨nx, rt, bk, ct⟩ := fun T σ H I D b =>
  h T σ H I _ fun v x S1 T1 H1 m1 c1 r1 h1 => h1 T1 v σ H1 (I.mv m1 c1) r1 _ fun σ' ρ' S' T' H' m' I' q => b.nx σ' ρ' S' T' H' (m1.trans m') I' q
theorem vx_drop {te : TE} {nx bk ct : Rho → Sto → Prop} {rt : D → Sto → Prop} (h : VE c te ρ S fun _ S1 => nx ρ S1) : VX c (tDrop te) ρ S ⟨nx, rt, bk, ct⟩ := fun T σ H I D b =>
  h T σ H I _ fun v x S1 T1 H1 m1 c1 r1 h1 => b.nx σ ρ S1 T1 H1 m1 (I.mv m1 c1) h1
theorem vx_ret {te : TE} {nx bk ct : Rho → Sto → Prop} {rt : D → Sto → Prop} (h : VE c te ρ S rt) : VX c (tRet te) ρ S ⟨nx, rt, bk, ct⟩ := fun T σ H I D b => h T σ H I _ fun v x S1 T1 H1 m1 c1 r1 h1 => b.rt v x S1 T1 H1 m1 c1 r1 h1
theorem vx_retN {nx bk ct : Rho → Sto → Prop} {rt : D → Sto → Prop} (h : rt .non S) : VX c tRetN ρ S ⟨nx, rt, bk, ct⟩ := fun T σ H I D b => b.rt _ _ S T H Mv.refl I.cells .non h
theorem vx_if {tc : TT} {t u : TS} (h : VT c tc ρ S fun b S1 => (b = true → VX c t ρ S1 P) ∧ (b = false → VX c u ρ S1 P)) : VX c (tIfS tc t u) ρ S P := fun T σ H I D bb =>
  h T σ H I _ fun b S1 T1 H1 m1 c1 ⟨h1, h2⟩ => by
    cases b with
    | true => exact iteT (h1 rfl T1 σ H1 (I.mv m1 c1) D (bb.mv m1))
    | false => exact iteF (h2 rfl T1 σ H1 (I.mv m1 c1) D (bb.mv m1))
theorem Cells.nohid {K : PySem.W.Frag} {H : Hp} {S T : Sto} {l : Addr} {d : D} (cl : Cells K H S T) (hl : S l = some d) (ne : d ≠ .hid) : T l ≠ some .hid := fun z => by
  rw [cl.at hl] at z
  cases z
  exact ne rfl
/-- a slot's object is from now on known by value -/
theorem vx_freeze {t : TS} (i : Nat) {l : Addr} (h : ρ[i]? = some (some (.ref l))) (hl : S l = some d) (k : VX c t (ρ.set i (some d)) (del S l) P) (ne : d ≠ .hid := by nofun) : VX c t ρ S P := fun T σ H I D b => by
  have nh := I.cells.nohid hl ne
  have J : In c σ H ρ (del S l) (del T l) := I.mv (mv_del nh) (I.cells.del nh)
  have I' : In c σ H (ρ.set i (some d)) (del S l) (del T l) := by
    refine J.reword h fun v r => ?_
    cases r
    exact I.cells.rep (I.cells.at hl) nh
  exact k _ σ H I' D (b.mv (mv_del nh))
theorem ve_freeze {te : TE} (h : VE c te ρ S fun x S1 => ∃ l d, x = .ref l ∧ S1 l = some d ∧ d ≠ .hid ∧ F d (del S1 l)) : VE c te ρ S F := fun T σ H I Q k =>
  h T σ H I Q fun v x S1 T1 H1 m1 c1 r1 ⟨l, d, e1, hl, ne, q⟩ => by
    subst e1
    cases r1
    have nh := c1.nohid hl ne
    exact k _ d _ _ H1 (m1.trans (mv_del nh)) (c1.del nh) (c1.rep (c1.at hl) nh) q
theorem vg_name {i : Nat} {F : Rho → Sto → Prop} (q : F (ρ.set i (some d)) S) : VG c (gName i) d ρ S F := fun T v σ H I r Q k => k _ _ S T H Mv.refl (I.set i r) q
/-- several targets -/
def VGs (c : Ctx) (g : TGs) (ds : List D) (ρ : Rho) (S : Sto) (F : Rho → Sto → Prop) : Prop := ∀ T vs σ H, In c σ H ρ S T → RepL c.K H T vs ds → ∀ Q : St → Hp → Prop,
  (∀ σ' ρ' S' T' H', Mv T H T' H' → In c σ' H' ρ' S' T' → F ρ' S' → Q σ' H') → g vs σ H Q
theorem vgs_nil {F : Rho → Sto → Prop} (q : F ρ S) : VGs c gNil [] ρ S F := fun T vs σ H I r Q k => by
  cases r; exact ⟨rfl, k σ ρ S T H Mv.refl I q⟩
theorem vgs_cons {g : TG} {gs : TGs} {ds : List D} {F : Rho → Sto → Prop} (h : VG c g d ρ S fun ρ1 S1 => VGs c gs ds ρ1 S1 F) : VGs c (gCons g gs) (d :: ds) ρ S F := fun T vs σ H I r Q k => by
  cases r with
  | cons h1 t => exact ⟨_, _, rfl, h T _ σ H I h1 _ fun σ1 ρ1 S1 T1 H1 m1 I1 q => q T1 _ σ1 H1 I1 (t.mv m1) Q fun σ2 ρ2 S2 T2 H2 m2 => k σ2 ρ2 S2 T2 H2 (m1.trans m2)⟩
theorem vg_tup {n : Nat} {gs : TGs} {ds : List D} {F : Rho → Sto → Prop} (hn : ds.length = n) (h : VGs c gs ds ρ S F) : VG c (gTup c.K n gs) (.tup ds) ρ S F := fun T v σ H I r Q k => by
  obtain ⟨a, xs, rfl, s, r⟩ := r.seqT
  exact ⟨a, xs, rfl, s, by rw [r.length]; exact hn, h T xs σ H I r Q k⟩
/-- l[i] = e -/
theorem vg_subL {to ti : TE} {F : Rho → Sto → Prop} (h : VE c to ρ S fun x S1 => ∃ l, x = .ref l ∧ VE c ti ρ S1 fun y S2 => ∃ (i : Int) (j : Nat) (ds : List D), y = .int i ∧ S2 l = some (.lst ds) ∧ ixN ds.length i = some j ∧ F ρ (put S2 l (.lst (ds.set j d)))) : VG c (gSub to ti rSetL) d ρ S F := fun T v σ H I r Q k =>
  h T σ H I _ fun vx x S1 T1 H1 m1 c1 r1 ⟨l, e, h1⟩ => h1 T1 σ H1 (I.mv m1 c1) _ fun vy y S2 T2 H2 m2 c2 r2 ⟨i, j, ds, e2, hl, hj, q⟩ => by
    subst e e2
    cases r1
    cases r2
    obtain ⟨xs, hx, rr⟩ := c2.ok _ _ (c2.at hl)
    have rd : Rep c.K H2 T2 v d := r.mv (m1.trans m2)
    have w := mv_wr (H := H2) (d := .lst (ds.set j d)) (o := .lst (xs.set j v)) (c2.at hl)
    have cl' : Cells c.K (upd H2 l (.lst (xs.set j v))) (put S2 l (.lst (ds.set j d))) (put T2 l (.lst (ds.set j d))) := c2.wr (c2.at hl) (cell_l upd_same ((RepL.set rd j rr).mv w))
    exact ⟨l, xs, i, j, rfl, rfl, hx, by rw [rr.length]; exact hj, k σ ρ _ _ _ (m1.trans (m2.trans w)) (I.mv (m1.trans (m2.trans w)) cl') q⟩
end
end VS
namespace VS
open PySem L2 C8
section
variable {c : Ctx} {ρ : Rho} {S : Sto} {F : D → Sto → Prop} {d : D}
/-! ### what is walked -/
theorem yl_list {K : PySem.W.Frag} {T : Sto} {H : Hp} {a : Addr} {xs : List V} {ds : List D} (h : ∀ T1 H1, Mv T H T1 H1 → SqL K H1 a xs) (r : RepL K H T xs ds) : Yl K (Itl K a) ds T H := by
  refine ⟨fun H => SqL K H a xs, YAt xs, by rw [← r.length]; exact walk_list, fun T1 H1 m => h T1 H1 m, fun i d S1 T1 H1 H2 x e m cl y => ?_⟩
  obtain ⟨e1, e2⟩ := y
  subst e1
  obtain ⟨v, e3, r'⟩ := r.get e
  rw [e2] at e3
  cases e3
  exact ⟨Mv.refl, cl, r'.mv m⟩
theorem SqL.mv {K : PySem.W.Frag} {S S' : Sto} {H H' : Hp} {a : Addr} {xs : List V} (m : Mv S H S' H') (s : S a = none) (h : SqL K H a xs) : SqL K H' a xs := by
  rcases h with (h | ⟨o, h⟩) | h
  · exact .inl (.inl (m.keep _ _ s h))
  · exact .inl (.inr ⟨o, m.keep _ _ s h⟩)
  · exact .inr h
/-- a list by value -/
inductive IsW : D → List D → Prop
  | v {ds : List D} : IsW (.lst ds) ds
  | r {ds : List D} : IsW (.rol ds) ds
theorem IsW.rd {K : PySem.W.Frag} {H : Hp} {x : D} {ds : List D} {u : V} (h : IsW x ds) (r : Rep K H S u x) : ∃ a xs, u = .ref a ∧ (∀ S' H', Mv S H S' H' → SqL K H' a xs) ∧ RepL K H S xs ds := by
  cases h with
  | v => obtain ⟨a, xs, e, s, h, r⟩ := r.seqL; exact ⟨a, xs, e, fun S' H' m => SqL.mv m s (.of h), r⟩
  | r => exact r.seqR
theorem vi_list {te : TE} {W : List D → Sto → Prop} (h : VE c te ρ S fun x S1 => ∃ ds, IsW x ds ∧ W ds S1) : VI c (iList c.K te) ρ S W := fun T σ H I R k =>
  h T σ H I _ fun vx x S1 T1 H1 m1 c1 r1 ⟨ds, hx, q⟩ => by
    obtain ⟨a, xs, rfl, hq, r⟩ := hx.rd r1
    exact ⟨a, rfl, ⟨xs, hq _ _ Mv.refl⟩, k _ ds S1 T1 H1 m1 c1 (yl_list hq r) q⟩
theorem SqT.mv {K : PySem.W.Frag} {H H' : Hp} {a : Addr} {xs : List V} (k : ∀ o, H a = some o → H' a = some o) (h : SqT K H a xs) : SqT K H' a xs := by
  rcases h with (h | ⟨o, h⟩) | h
  · exact .inl (.inl (k _ h))
  · exact .inl (.inr ⟨o, k _ h⟩)
  · exact .inr h
theorem vi_tup {te : TE} {W : List D → Sto → Prop} (h : VE c te ρ S fun x S1 => ∃ ds, x = .tup ds ∧ W ds S1) : VI c (iTup c.K te) ρ S W := fun T σ H I R k =>
  h T σ H I _ fun vx x S1 T1 H1 m1 c1 r1 ⟨ds, hx, q⟩ => by
    subst hx
    have fin : ∀ a xs, vx = .ref a → (∀ T2 H2, Mv T1 H1 T2 H2 → SqT c.K H2 a xs) → RepL c.K H1 T1 xs ds → iTup c.K te = iTup c.K te → ∃ b, vx = .ref b ∧ (∃ xs, SqT c.K H1 b xs) ∧ R (Itt c.K b) H1 := fun a xs e hq r _ => by
      refine ⟨a, e, ⟨xs, hq T1 H1 Mv.refl⟩, k _ ds S1 T1 H1 m1 c1 ⟨fun H => SqT c.K H a xs, YAt xs, by rw [← r.length]; exact walk_tup, hq, fun i d S2 T2 H2 H3 x e m cl y => ?_⟩ q⟩
      obtain ⟨e1, e2⟩ := y
      subst e1
      obtain ⟨v, e3, r'⟩ := r.get e
      rw [e2] at e3
      cases e3
      exact ⟨Mv.refl, cl, r'.mv m⟩
    cases r1 with
    | tup s h r => exact fin _ _ rfl (fun T2 H2 m => .inl (.inl (m.keep _ _ s h))) r rfl
    | tupK h r => exact fin _ _ rfl (fun T2 H2 m => .inr h) r rfl
def rngD (lo : Int) (n : Nat) : List D := (List.range n).map fun i => .int (lo + (i : Nat))
theorem rngD_len {lo : Int} {n : Nat} : (rngD lo n).length = n := by simp [rngD]
theorem rngD_get {lo : Int} {n i : Nat} {d : D} (h : (rngD lo n)[i]? = some d) : i < n ∧ d = .int (lo + (i : Nat)) := by
  unfold rngD at h
  rw [List.getElem?_map] at h
  cases e : (List.range n)[i]? with
  | none => rw [e] at h; cases h
  | some j =>
    rw [e] at h
    obtain ⟨h1, h2⟩ := List.getElem?_eq_some_iff.mp e
    rw [List.getElem_range] at h2
    subst h2
    cases h
    rw [List.length_range] at h1
    exact ⟨h1, rfl⟩
theorem yl_rng {K : PySem.W.Frag} {T : Sto} {H : Hp} {lo : Int} {n : Nat} : Yl K (Itr lo n) (rngD lo n) T H := by
  refine ⟨fun _ => True, YFn fun i => .int (lo + (i : Nat)), by rw [rngD_len]; exact walk_range, fun _ _ _ => trivial, fun i d S1 T1 H1 H2 x e m cl y => ?_⟩
  obtain ⟨e1, e2⟩ := y
  subst e1 e2
  obtain ⟨_, e3⟩ := rngD_get e
  subst e3
  exact ⟨Mv.refl, cl, .int _⟩
theorem vi_rng1 {ta : TA} {W : List D → Sto → Prop} (h : VA c ta ρ S fun es S1 => ∃ j : Int, es = [.int j] ∧ (-(2 ^ 62) ≤ j ∧ j < 2 ^ 62) ∧ W (rngD 0 j.toNat) S1) : VI c (iRng1 ta) ρ S W := fun T σ H I R k =>
  h T σ H I _ fun vs es S1 T1 H1 m1 c1 r1 ⟨j, e, ⟨hl, hh⟩, q⟩ => by
    subst e
    cases r1 with
    | cons h1 t => cases t; cases h1; exact ⟨j, rfl, hl, hh, k _ _ S1 T1 H1 m1 c1 yl_rng q⟩
/-- a text's signs -/
def signsD (x : Str) : List D := x.cps.toList.map fun n => .str ⟨#[n]⟩
theorem vi_str {te : TE} {W : List D → Sto → Prop} (h : VE c te ρ S fun x S1 => ∃ z, x = .str z ∧ W (signsD z) S1) : VI c (iStr te) ρ S W := fun T σ H I R k =>
  h T σ H I _ fun vx x S1 T1 H1 m1 c1 r1 ⟨z, e, q⟩ => by
    subst e
    cases r1
    refine ⟨z, rfl, k _ (signsD z) S1 T1 H1 m1 c1 ⟨fun _ => True, _, by rw [show (signsD z).length = z.cps.size by simp [signsD]]; exact walk_str, fun _ _ _ => trivial, fun i d S2 T2 H2 H3 x e m cl y => ?_⟩ q⟩
    obtain ⟨e1, n, e2, e3⟩ := y
    subst e1 e3
    unfold signsD at e
    rw [List.getElem?_map, Array.getElem?_toList, e2] at e
    cases e
    exact ⟨Mv.refl, cl, .str _⟩
def enumD (ds : List D) : List D := ds.zipIdx.map fun p => .tup [.int (p.2 : Nat), p.1]
theorem enumD_len {ds : List D} : (enumD ds).length = ds.length := by simp [enumD]
theorem enumD_get {ds : List D} {i : Nat} {d : D} (h : (enumD ds)[i]? = some d) : ∃ e, ds[i]? = some e ∧ d = .tup [.int (i : Nat), e] := by
  unfold enumD at h
  rw [List.getElem?_map, List.getElem?_zipIdx] at h
  cases e : ds[i]? with
  | none => rw [e] at h; cases h
  | some x =>
    rw [e] at h
    simp at h
    exact ⟨x, rfl, h.symm⟩
theorem vi_enum {ta : TA} {W : List D → Sto → Prop} (h : VA c ta ρ S fun es S1 => ∃ x ds, es = [x] ∧ IsW x ds ∧ W (enumD ds) S1) : VI c (iEnum c.K ta) ρ S W := fun T σ H I R k =>
  h T σ H I _ fun vs es S1 T1 H1 m1 c1 r1 ⟨x, ds, e, hx, q⟩ => by
    subst e
    cases r1 with
    | cons h1 t =>
      cases t
      obtain ⟨a, xs, rfl, hq, r⟩ := hx.rd h1
      refine ⟨a, xs, rfl, hq _ _ Mv.refl, k _ (enumD ds) S1 T1 H1 m1 c1 ⟨fun H => SqL c.K H a xs, _, by rw [enumD_len, ← r.length]; exact walk_enum, hq, fun i d S2 T2 H2 H3 y e m cl yy => ?_⟩ q⟩
      obtain ⟨T, u, w, e1, hT, e2, e3, e4⟩ := yy
      obtain ⟨y', e5, e6⟩ := enumD_get e
      subst e1 e2 e6
      obtain ⟨v, e7, r'⟩ := r.get e5
      have e4' : xs[i]? = some w := e4
      rw [e4'] at e7
      cases e7
      cases e3
      exact ⟨mv_new hT, cl.new hT, .tup (cl.free hT) upd_same (.cons (.int _) (.cons ((r'.mv m).mv (mv_new hT)) .nil))⟩
/-! ### for -/
theorem vx_for {wi : TI} {g : TG} {tb : TS} {nx bk ct : Rho → Sto → Prop} {rt : D → Sto → Prop}
    (h : VI c wi ρ S fun ds S1 => ∃ W : Nat → Rho → Sto → Prop, W 0 ρ S1 ∧ (∀ (i : Nat) (d : D) ρ2 S2, ds[i]? = some d → W i ρ2 S2 → VG c g d ρ2 S2 fun ρ3 S3 => VX c tb ρ3 S3 ⟨W (i + 1), rt, nx, W (i + 1)⟩) ∧ (∀ ρ2 S2, W ds.length ρ2 S2 → nx ρ2 S2)) :
    VX c (tFor wi g tb) ρ S ⟨nx, rt, bk, ct⟩ := fun T σ H I D b =>
  h T σ H I _ fun J ds S1 T1 H1 m1 c1 ⟨G, Y, w, hG, hY⟩ ⟨W, h0, hs, hd⟩ => by
    refine for_it w (fun i σ' H' => ∃ ρ2 S2 T2, Mv T1 H1 T2 H' ∧ In c σ' H' ρ2 S2 T2 ∧ W i ρ2 S2) ⟨ρ, S1, T1, Mv.refl, I.mv m1 c1, h0⟩ (fun i σ' H' _ ⟨ρ2, S2, T2, m, _, _⟩ => hG T2 H' m) ?_ ?_
    · rintro i x σ' H' H'' hi ⟨ρ2, S2, T2, m, I2, hw⟩ y
      obtain ⟨d, e⟩ : ∃ d, ds[i]? = some d := ⟨ds[i], List.getElem?_eq_getElem hi⟩
      obtain ⟨m3, c3, r3⟩ := hY i d S2 T2 H' H'' x e m I2.cells y
      refine hs i d ρ2 S2 e hw T2 x σ' H'' (I2.mv m3 c3) r3 _ fun σ3 ρ3 S3 T3 H3 m4 I3 q => ?_
      have mm := m.trans (m3.trans m4)
      have mb := m1.trans mm
      exact q T3 σ3 H3 I3 _ ⟨fun σ4 ρ4 S4 T4 H4 m5 I4 q4 => ⟨ρ4, S4, T4, mm.trans m5, I4, q4⟩, fun v d S4 T4 H4 m5 => b.rt v d S4 T4 H4 (mb.trans m5), fun σ4 ρ4 S4 T4 H4 m5 => b.nx σ4 ρ4 S4 T4 H4 (mb.trans m5), fun σ4 ρ4 S4 T4 H4 m5 I4 q4 => ⟨ρ4, S4, T4, mm.trans m5, I4, q4⟩⟩
    · rintro σ' H' ⟨ρ2, S2, T2, m, I2, hw⟩
      exact b.nx σ' ρ2 S2 T2 H' (m1.trans m) I2 (hd ρ2 S2 hw)
theorem vx_while {tc : TT} {tb : TS} {nx bk ct : Rho → Sto → Prop} {rt : D → Sto → Prop} (W : Nat → Rho → Sto → Prop) (m0 : Nat) (h0 : W m0 ρ S)
    (hs : ∀ m ρ2 S2, W m ρ2 S2 → VT c tc ρ2 S2 fun b S3 => (b = true → VX c tb ρ2 S3 ⟨fun ρ4 S4 => ∃ m', m' < m ∧ W m' ρ4 S4, rt, nx, fun ρ4 S4 => ∃ m', m' < m ∧ W m' ρ4 S4⟩) ∧ (b = false → nx ρ2 S3)) :
    VX c (tWhile tc tb) ρ S ⟨nx, rt, bk, ct⟩ := fun T σ H I D b => by
  refine ⟨fun m σ' H' => ∃ ρ2 S2 T2, Mv T H T2 H' ∧ In c σ' H' ρ2 S2 T2 ∧ W m ρ2 S2, ⟨m0, ρ, S, T, Mv.refl, I, h0⟩, fun m σ' H' ⟨ρ2, S2, T2, mm, I2, hw⟩ => ?_⟩
  refine hs m ρ2 S2 hw T2 σ' H' I2 _ fun k S3 T3 H3 m3 c3 ⟨h1, h2⟩ => ?_
  cases k with
  | true =>
    refine iteT ⟨fun σ4 H4 => ∃ ρ4 S4 T4, Mv T H T4 H4 ∧ In c σ4 H4 ρ4 S4 T4 ∧ ∃ m', m' < m ∧ W m' ρ4 S4, fun σ4 H4 ⟨ρ4, S4, T4, a, I4, m', l, w⟩ => ⟨m', l, ρ4, S4, T4, a, I4, w⟩, ?_⟩
    have mb := mm.trans m3
    exact h1 rfl T3 σ' H3 (I2.mv m3 c3) _ ⟨fun σ4 ρ4 S4 T4 H4 m5 I4 q4 => ⟨ρ4, S4, T4, mb.trans m5, I4, q4⟩, fun v d S4 T4 H4 m5 => b.rt v d S4 T4 H4 (mb.trans m5), fun σ4 ρ4 S4 T4 H4 m5 => b.nx σ4 ρ4 S4 T4 H4 (mb.trans m5), fun σ4 ρ4 S4 T4 H4 m5 I4 q4 => ⟨ρ4, S4, T4, mb.trans m5, I4, q4⟩⟩
  | false => exact iteF (b.nx σ' ρ2 S3 T3 H3 (mm.trans m3) (I2.mv m3 c3) (h2 rfl))
/-! ### comprehensions -/
def wipeR (ρ : Rho) : List Nat → Rho
  | [] => ρ
  | v :: vs => (wipeR ρ vs).set v none
theorem In.wipe {T : Sto} {σ : St} {H : Hp} (I : In c σ H ρ S T) : ∀ vs : List Nat, In c (L2.wipe σ vs) H (wipeR ρ vs) S T
  | [] => I
  | v :: vs => by
    have J := In.wipe I vs
    refine ⟨J.cells, fun j e q => ?_, by simp [L2.wipe, wipeR, J.len], J.exc⟩
    unfold wipeR at q
    by_cases z : v = j
    · subst z
      by_cases hv : v < (wipeR ρ vs).length
      · rw [List.getElem?_set_self hv] at q; cases q
      · rw [List.getElem?_eq_none (by simpa using hv)] at q; cases q
    · rw [List.getElem?_set_ne z] at q
      obtain ⟨u, h1, h2⟩ := J.slots j e q
      exact ⟨u, by unfold L2.wipe; rw [List.getElem?_set_ne z]; exact h1, h2⟩
theorem wipe_set_out {σ : St} {i : Nat} {x : Option V} : ∀ us : List Nat, i ∉ us → L2.wipe (σ.set i x) us = (L2.wipe σ us).set i x
  | [], _ => rfl
  | u :: us, hu => by
    simp only [List.mem_cons, not_or] at hu
    unfold L2.wipe
    rw [wipe_set_out us hu.2, List.set_comm _ _ hu.1]
theorem wipe_set {σ : St} {i : Nat} {x : Option V} : ∀ {vs : List Nat}, i ∈ vs → L2.wipe (σ.set i x) vs = L2.wipe σ vs
  | v :: vs, h => by
    unfold L2.wipe
    by_cases hm : i ∈ vs
    · rw [wipe_set hm]
    · have z : i = v := by
        rcases List.mem_cons.mp h with q | q
        · exact q
        · exact absurd q hm
      subst z
      rw [wipe_set_out vs hm, List.set_set]
theorem wipe_wipe {σ : St} (vs : List Nat) : ∀ us : List Nat, (∀ v ∈ us, v ∈ vs) → L2.wipe (L2.wipe σ us) vs = L2.wipe σ vs
  | [], _ => rfl
  | u :: us, h => by
    show L2.wipe ((L2.wipe σ us).set u none) vs = _
    rw [wipe_set (h u List.mem_cons_self), wipe_wipe vs us fun v hv => h v (List.mem_cons_of_mem _ hv)]
/-- the targets of a comprehension: they store its own names alone -/
def VGw (c : Ctx) (vs : List Nat) (g : TG) (d : D) (ρ : Rho) (S : Sto) (F : Rho → Sto → Prop) : Prop := ∀ T v σ H, In c σ H ρ S T → Rep c.K H T v d → ∀ Q : St → Hp → Prop,
  (∀ σ' ρ' S' T' H', L2.wipe σ' vs = L2.wipe σ vs → Mv T H T' H' → In c σ' H' ρ' S' T' → F ρ' S' → Q σ' H') → g v σ H Q
theorem vgw_name {vs : List Nat} {i : Nat} {F : Rho → Sto → Prop} (hi : i ∈ vs) (q : F (ρ.set i (some d)) S) : VGw c vs (gName i) d ρ S F := fun T v σ H I r Q k => k _ _ S T H (wipe_set hi) Mv.refl (I.set i r) q
def VGws (c : Ctx) (vs : List Nat) (g : TGs) (ds : List D) (ρ : Rho) (S : Sto) (F : Rho → Sto → Prop) : Prop := ∀ T us σ H, In c σ H ρ S T → RepL c.K H T us ds → ∀ Q : St → Hp → Prop,
  (∀ σ' ρ' S' T' H', L2.wipe σ' vs = L2.wipe σ vs → Mv T H T' H' → In c σ' H' ρ' S' T' → F ρ' S' → Q σ' H') → g us σ H Q
theorem vgws_nil {vs : List Nat} {F : Rho → Sto → Prop} (q : F ρ S) : VGws c vs gNil [] ρ S F := fun T us σ H I r Q k => by
  cases r; exact ⟨rfl, k σ ρ S T H rfl Mv.refl I q⟩
theorem vgws_cons {vs : List Nat} {g : TG} {gs : TGs} {ds : List D} {F : Rho → Sto → Prop} (h : VGw c vs g d ρ S fun ρ1 S1 => VGws c vs gs ds ρ1 S1 F) : VGws c vs (gCons g gs) (d :: ds) ρ S F := fun T us σ H I r Q k => by
  cases r with
  | cons h1 t => exact ⟨_, _, rfl, h T _ σ H I h1 _ fun σ1 ρ1 S1 T1 H1 e1 m1 I1 q => q T1 _ σ1 H1 I1 (t.mv m1) Q fun σ2 ρ2 S2 T2 H2 e2 m2 => k σ2 ρ2 S2 T2 H2 (e2.trans e1) (m1.trans m2)⟩
theorem vgw_tup {vs : List Nat} {n : Nat} {gs : TGs} {ds : List D} {F : Rho → Sto → Prop} (hn : ds.length = n) (h : VGws c vs gs ds ρ S F) : VGw c vs (gTup c.K n gs) (.tup ds) ρ S F := fun T v σ H I r Q k => by
  obtain ⟨a, xs, rfl, s, r⟩ := r.seqT
  exact ⟨a, xs, rfl, s, by rw [r.length]; exact hn, h T xs σ H I r Q k⟩
/-- the heart -/
theorem lc_heart {wi : TI} {g : TG} {tt : TT} {te : TE} {vs : List Nat} {R : List D → Sto → Prop}
    (h : VI c wi ρ S fun ds S1 => ds.length ≤ 100000 ∧ ∃ W : Nat → List D → Sto → Prop, W 0 [] S1 ∧ (∀ (i : Nat) (d : D) acc S2, ds[i]? = some d → W i acc S2 → acc.length ≤ i → VGw c vs g d (wipeR ρ vs) S2 fun ρ3 S3 => VT c tt ρ3 S3 fun b S4 => (b = true → VE c te ρ3 S4 fun y S5 => W (i + 1) (acc ++ [y]) S5) ∧ (b = false → W (i + 1) acc S4)) ∧
      (∀ acc S2, W ds.length acc S2 → acc.length ≤ ds.length → R acc S2)) {T : Sto} {σ : St} {H : Hp} (I : In c σ H ρ S T) {Q : VK}
    (k : ∀ p xs acc S' T' H' T1 H1, Mv T H T1 H1 → Mv T1 H1 T' H' → Cells c.K H' S' T' → T' p = some .hid → H1 p = none → H' p = some (.lst xs) → RepL c.K H' T' xs acc → R acc S' → Q (.ref p) H') : tLc wi g tt te vs σ H Q :=
  h T σ H I _ fun J ds S1 T1 H1 m1 c1 ⟨G, Y, w, hG, hY⟩ ⟨hl, W, h0, hs, hd⟩ => fun p hp => by
    refine lc_it w (fun i H' => ∃ S2 T2 xs acc, Mv T1 H1 T2 H' ∧ Cells c.K H' S2 T2 ∧ T2 p = some .hid ∧ H' p = some (.lst xs) ∧ RepL c.K H' T2 xs acc ∧ acc.length ≤ i ∧ W i acc S2)
      ⟨S1, put T1 p .hid, [], [], mv_newc hp, c1.newh hp, put_same, upd_same, .nil, Nat.le_refl _, h0⟩ (fun i H' _ ⟨S2, T2, _, _, m, _⟩ => hG T2 H' m) ?_ ?_
    · rintro i x H' H'' hi ⟨S2, T2, xs, acc, m, c2, s2, hx, r2, hle, hw⟩ y
      obtain ⟨d, e⟩ : ∃ d, ds[i]? = some d := ⟨ds[i], List.getElem?_eq_getElem hi⟩
      obtain ⟨m3, c3, r3⟩ := hY i d S2 T2 H' H'' x e m c2 y
      have I2 : In c σ H'' ρ S2 T2 := I.mv (m1.trans (m.trans m3)) c3
      refine hs i d acc S2 e hw hle T2 x (L2.wipe σ vs) H'' (I2.wipe vs) r3 _ fun σ3 ρ3 S3 T3 H3 ew m4 I3 q => ⟨ew.trans (wipe_wipe vs vs fun _ h => h), ?_⟩
      refine q T3 σ3 H3 I3 _ fun b S4 T4 H4 m5 c4 ⟨q1, q2⟩ => ?_
      have mm := m3.trans (m4.trans m5)
      cases b with
      | true =>
        refine iteT (q1 rfl T4 σ3 H4 (I3.mv m5 c4) _ fun v y S5 T5 H5 m6 c5 r5 q5 => ?_)
        have m7 := mm.trans m6
        obtain ⟨hx5, s5⟩ := m7.hid _ _ s2 hx
        refine ⟨xs, hx5, ?_, S5, T5, xs ++ [v], acc ++ [y], (m.trans m7).hidw hp, c5.hidw s5, s5, upd_same, ((r2.mv m7).append (.cons r5 .nil)).mk (mk_hid s5), ?_, q5⟩
        · rw [r2.length]
          exact Nat.lt_of_lt_of_le (show acc.length < 100001 by omega) (by decide)
        · rw [List.length_append, List.length_singleton]
          omega
      | false =>
        obtain ⟨hx5, s5⟩ := mm.hid _ _ s2 hx
        exact iteF ⟨S4, T4, xs, acc, m.trans mm, c4, s5, hx5, r2.mv mm, by omega, q2 rfl⟩
    · rintro H' ⟨S2, T2, xs, acc, m, c2, s2, hx, r2, hle, hw⟩
      exact k p xs acc S2 T2 H' T1 H1 m1 m c2 s2 hp hx r2 (hd acc S2 hw hle)
theorem Mv.unhid {S S' : Sto} {H H' : Hp} {p : Addr} (m : Mv S H S' H') (h : H p = none) : Mv S H (del S' p) H' where
  keep := m.keep
  fresh := fun a s e => by
    unfold del
    split
    · rfl
    · exact m.fresh a s e
  hid := fun a o s e => by
    obtain ⟨e1, e2⟩ := m.hid a o s e
    refine ⟨e1, ?_⟩
    rw [del_ne (ne_of_none e h)]
    exact e2
theorem Mv.show {S S' : Sto} {H H' : Hp} {p : Addr} {d : D} (m : Mv S H S' H') (h : H p = none) : Mv S H (put S' p d) H' where
  keep := m.keep
  fresh := fun a s e => by
    rw [put_ne]
    · exact m.fresh a s e
    · intro z; subst z; exact e h
  hid := fun a o s e => by
    obtain ⟨e1, e2⟩ := m.hid a o s e
    refine ⟨e1, ?_⟩
    rw [put_ne (ne_of_none e h)]
    exact e2
theorem Cells.show {K : PySem.W.Frag} {S T : Sto} {H : Hp} {p : Addr} {xs : List V} {ds : List D} (cl : Cells K H S T) (s : T p = some .hid) (hx : H p = some (.lst xs)) (r : RepL K H T xs ds) : Cells K H (put S p (.lst ds)) (put T p (.lst ds)) := by
  have m : Mk T H (put T p (.lst ds)) H := by
    refine ⟨fun _ _ _ h => h, fun a q _ => ?_⟩
    rw [put_ne]
    · exact q
    · intro z; subst z; rw [s] at q; cases q
  refine ⟨ov_put cl.ov (by nofun), fun a e q => ?_⟩
  by_cases z : a = p
  · subst z; rw [put_same] at q; cases q; exact cell_l hx (r.mk m)
  · rw [put_ne z] at q
    exact CellOk.mk m rfl (cl.ok a e q)
/-- [e for x in xs if t], by value -/
theorem ve_lc {wi : TI} {g : TG} {tt : TT} {te : TE} {vs : List Nat}
    (h : VI c wi ρ S fun ds S1 => ds.length ≤ 100000 ∧ ∃ W : Nat → List D → Sto → Prop, W 0 [] S1 ∧ (∀ (i : Nat) (d : D) acc S2, ds[i]? = some d → W i acc S2 → acc.length ≤ i → VGw c vs g d (wipeR ρ vs) S2 fun ρ3 S3 => VT c tt ρ3 S3 fun b S4 => (b = true → VE c te ρ3 S4 fun y S5 => W (i + 1) (acc ++ [y]) S5) ∧ (b = false → W (i + 1) acc S4)) ∧
      (∀ acc S2, W ds.length acc S2 → acc.length ≤ ds.length → F (.lst acc) S2)) : VE c (tLc wi g tt te vs) ρ S F := fun T σ H I Q k =>
  lc_heart (R := fun acc S2 => F (.lst acc) S2) h I fun p xs acc S' T' H' T1 H1 m1 m cl s n hx r q => by
    exact k _ (.lst acc) S' (del T' p) H' (m1.trans (m.unhid n)) (cl.unhid s) (.lst del_same hx (r.mk (mk_show s))) q
/-- .. by reference -/
theorem ve_lcc {wi : TI} {g : TG} {tt : TT} {te : TE} {vs : List Nat}
    (h : VI c wi ρ S fun ds S1 => ds.length ≤ 100000 ∧ ∃ W : Nat → List D → Sto → Prop, W 0 [] S1 ∧ (∀ (i : Nat) (d : D) acc S2, ds[i]? = some d → W i acc S2 → acc.length ≤ i → VGw c vs g d (wipeR ρ vs) S2 fun ρ3 S3 => VT c tt ρ3 S3 fun b S4 => (b = true → VE c te ρ3 S4 fun y S5 => W (i + 1) (acc ++ [y]) S5) ∧ (b = false → W (i + 1) acc S4)) ∧
      (∀ acc S2, W ds.length acc S2 → acc.length ≤ ds.length → ∀ p, S2 p = none → F (.ref p) (put S2 p (.lst acc)))) : VE c (tLc wi g tt te vs) ρ S F := fun T σ H I Q k =>
  lc_heart (R := fun acc S2 => ∀ p, S2 p = none → F (.ref p) (put S2 p (.lst acc))) h I fun p xs acc S' T' H' T1 H1 m1 m cl s n hx r q => by
    have sp : S' p = none := by
      rcases cl.ov p with ⟨_, e⟩ | ⟨e, _⟩
      · exact absurd s e
      · exact e
    exact k _ _ _ (put T' p (.lst acc)) H' (m1.trans (m.show n)) (cl.show s hx r) (.ref p) (q p sp)
end
end VS
namespace VS
open PySem L2 C8 PySem.Spec PyProof.Rows
/-! ### a def's promise where nothing is being shown around (repr asks that) -/
structure FnG (P : Program) (w : World) (K : PySem.W.Frag) (mg : Str → Option Value) (base : Heap) (CX : CXT) (k : Nat) (f : Addr) (fd : FuncData) (ps : List Str) (sp : Sp) : Prop where
  len : ∀ vs H Q E, sp vs H Q E → vs.length = ps.length
  run : ∀ (A : Around), A.guards = some [] → ∀ (outer : List Env) (s : Shared) (H : Hp) (args : Args) (us : List Value) (vs : List V) (Q : VK) (E : XK), Room k A →
    Env0 P w K mg base A outer s H → BindsTo s fd args (ps.zip us) → Vals vs us → sp vs H Q E → codeAny (model P w) A (.call (.ref f) args) (CR CX outer P w H s Q E) s
abbrev Fd (K : PySem.W.Frag) (x qual : Str) (st : Stmt) (dvs : List V) (f : Addr) (fd : FuncData) : Prop := FunD K x qual (defArgs st) (defBody st) (defScope st) dvs [] f fd
/-- what a callee lets out is taken, at the slots as they are -/
def PassS (CX : CXT) (X : Cx) (E : L2.St → XK) : Prop := ∀ (pins : List (Addr × Obj)) (σ : L2.St) (H : Hp) (s : Shared) (e : Value) (s' : Shared), Inv X pins σ H s → CX X.stack H s (E σ) e s' → X.xe e s'
theorem passS_of {X : Cx} {W : WX} (tk : Takes X W) : PassS (L2.CX X.prog X.w) X (fun σ cls d H => W cls d σ H) := fun _ σ _ _ e s' I c => tk e s' (XE.of_call I (fun _ _ _ h => h) c)
/-- nothing is let out -/
def noE : L2.St → XK := fun _ _ _ _ => False
theorem pass0 {X : Cx} : PassS (L2.CX X.prog X.w) X noE := fun _ _ _ _ _ _ _ h => by
  obtain ⟨_, _, _, _, _, _, _, _, _, _, _, _, z⟩ := h
  exact z.elim
section
variable {P : Program} {w : World} {K : PySem.W.Frag} {mg : Str → Option Value} {base : Heap} {CX : CXT}
/-- a def by its body -/
theorem fnG_of {x qual : Str} {st : Stmt} {dvs : List V} {f : Addr} {fd : FuncData} {N ps : List Str} {k : Nat} {sp : Sp} (F : Fd K x qual st dvs f fd) (Sc : FnScope N ps (defScope st)) (len : ∀ vs H Q E, sp vs H Q E → vs.length = ps.length)
    (body : ∀ (cdv : Value) (A : Around), A.guards = some [] → ∀ (outer : List Env) (s : Shared) (H : Hp) (vs : List V) (Q : VK) (E : XK), Room k (A.deeper (envOfC qual (defScope st) s.heap.objs.size f cdv)) → sp vs H Q E →
      ∃ t, PSs (cxOf CX P w K mg base N qual (defScope st) f cdv A outer s H E) (defBody st) t ∧ t ⟨fun _ H' => Q .non H', Q, fun _ _ => False, fun _ _ => False⟩ (L2.start N vs) H) : FnG P w K mg base CX (k + 1) f fd ps sp := by
  obtain ⟨oc, od, dV, kV, doc, pm, an, cdv, ct, osl, rfl, lk, hcd, _, _⟩ := F.ex
  refine ⟨len, fun A hgd outer s H args us vs Q E room en hb rv hsp => ?_⟩
  have heap_in : K.In s.heap := en.mod.kin.keeps fun b o e => (en.bs b o e).1
  have nolim : s.heap.NoLimit := en.mod.nolimit.keeps fun b o e => (en.bs b o e).1
  refine codeAny_call_function room.depth (heap_in _ _ lk) rfl Sc.co Sc.gen rfl (PySem.W.codeRec_of heap_in hcd) (hb _ _ _ _ ?_)
  have kinds : ∀ y ∈ ps.zip us, (defScope st).names.lookup y.1 = some .local ∨ ((defScope st).names.lookup y.1 = some .cell ∧ ((cellsFrom (s.heap.objs.size + 1) (defScope st).names []).lookup y.1).isSome = true) := by
    rintro ⟨n, v⟩ hy
    cases Sc.par n (List.of_mem_zip hy).1 with
    | inl q => exact .inl q
    | inr q => exact .inr ⟨q, PySem.W.cellsFrom_some _ _ _ (.inl q)⟩
  refine wpAny_newFunctionEnv_cells Sc.kind kinds fun env he s1 inc => ?_
  subst he
  obtain ⟨t, ht, hq⟩ := body cdv A hgd outer s H vs Q E (room.deeper _) hsp
  refine ⟨nolim.keeps inc.toInCall.keep, codeAny_func (wpAny_mono (ht.run [] s1 (L2.start N vs) H _ (inv_start Sc room.hd en (len _ _ _ _ hsp) rv inc) hq) (fun fl s2 hs => ?_) fun _ _ q => q)⟩
  cases fl with
  | next => obtain ⟨σ2, H2, J, q⟩ := hs; exact ⟨.non, H2, J.os, J.bare, J.base, J.hok, rfl, q⟩
  | ret u => obtain ⟨v, σ2, H2, J, r2, q⟩ := hs; exact ⟨v, H2, J.os, J.bare, J.base, J.hok, r2, q⟩
  | brk => obtain ⟨_, _, _, q⟩ := hs; exact q.elim
  | cont => obtain ⟨_, _, _, q⟩ := hs; exact q.elim
/-- .. by value -/
def startR (N : List Str) (ds : List D) : Rho := ds.map some ++ List.replicate (N.length - ds.length) none
theorem in_start {c : Ctx} {N : List Str} {vs : List V} {ds : List D} {S T : Sto} {H : Hp} (cl : Cells c.K H S T) (r : RepL c.K H T vs ds)
    (ex : ∀ (σ' : L2.St) (ρ' : Rho) (C : Addr) (d : Option Addr) (fs : List (Str × D)) (S' T' : Sto) (H' : Hp), Mv T H T' H' → Cells c.K H' S' T' → Sl c.K H' T' σ' ρ' → XRep c.K H' T' d fs → c.Y C fs ρ' S' → c.E σ' (.ref C) d H') : In c (L2.start N vs) H (startR N ds) S T := by
  refine ⟨cl, fun i d e => ?_, by simp [L2.start, startR, r.length], ex⟩
  unfold startR at e
  by_cases hi : i < ds.length
  · rw [List.getElem?_append_left (by simpa using hi), List.getElem?_map] at e
    cases q : ds[i]? with
    | none => rw [q] at e; cases e
    | some d' =>
      rw [q] at e
      cases e
      obtain ⟨v, h1, h2⟩ := r.get q
      refine ⟨v, ?_, h2⟩
      unfold L2.start
      rw [List.getElem?_append_left (by rw [List.length_map, r.length]; exact hi), List.getElem?_map, h1] <;> rfl
  · rw [List.getElem?_append_right (by simpa using Nat.le_of_not_lt hi), List.getElem?_replicate] at e
    split at e <;> cases e
theorem fn_val {x qual : Str} {st : Stmt} {dvs : List V} {f : Addr} {fd : FuncData} {N ps : List Str} {k : Nat} {p : Pt} (F : Fd K x qual st dvs f fd) (Sc : FnScope N ps (defScope st)) (len : ∀ ds S G Y, p ds S G Y → ds.length = ps.length)
    (body : ∀ (cdv : Value) (A : Around), A.guards = some [] → ∀ (outer : List Env) (s : Shared) (H : Hp) (E : XK), Room k (A.deeper (envOfC qual (defScope st) s.heap.objs.size f cdv)) →
      PassS (L2.CX P w) (cxOf (L2.CX P w) P w K mg base N qual (defScope st) f cdv A outer s H E) (fun _ => E) → Takes (cxOf (L2.CX P w) P w K mg base N qual (defScope st) f cdv A outer s H E) (fun cls d _ H' => E cls d H') →
      PassesOwn (model P w) (A.deeper (envOfC qual (defScope st) s.heap.objs.size f cdv)) (envOfC qual (defScope st) s.heap.objs.size f cdv) (cxOf (L2.CX P w) P w K mg base N qual (defScope st) f cdv A outer s H E).xe → ∀ ds S G Y, p ds S G Y →
      ∃ t, PSs (cxOf (L2.CX P w) P w K mg base N qual (defScope st) f cdv A outer s H E) (defBody st) t ∧ VX ⟨K, fun _ => E, fun C fs _ S' => Y C fs S'⟩ t (startR N ds) S ⟨fun _ S' => G .non S', G, fun _ _ => False, fun _ _ => False⟩) : FnG P w K mg base (L2.CX P w) (k + 1) f fd ps (spOf K p) := by
  refine fnG_of F Sc (fun vs H Q E h => ?_) fun cdv A hgd outer s H vs Q E room h => ?_
  · obtain ⟨ds, S, T, G, Y, r, _, hp, _⟩ := h
    rw [r.length]
    exact len _ _ _ _ hp
  · obtain ⟨ds, S, T, G, Y, r, cl, hp, hv, hx⟩ := h
    have tk : Takes (cxOf (L2.CX P w) P w K mg base N qual (defScope st) f cdv A outer s H E) (fun cls d _ H' => E cls d H') := takes_of rfl rfl rfl rfl
    obtain ⟨t, h1, h2⟩ := body cdv A hgd outer s H E room (passS_of tk) tk PassesOwn.leaving ds S G Y hp
    refine ⟨t, h1, h2 T _ H (in_start (c := ⟨K, fun _ => E, fun C fs _ S' => Y C fs S'⟩) cl r (fun _ _ C d fs S' T' H' m c2 _ x y => hx C d fs S' T' H' m c2 x y)) _ ⟨fun σ' ρ' S' T' H' m I' q => ?_, fun v d S' T' H' m c2 r2 q => hv v d S' T' H' m c2 r2 q, fun _ _ _ _ _ _ _ q => q.elim, fun _ _ _ _ _ _ _ q => q.elim⟩⟩
    exact hv .non .non S' T' H' m I'.cells .non q
end
/-! ### calls -/
def tCallE (sp : Sp) (dvs : List V) (E : L2.St → XK) (t : TA) : TE := fun σ H Q => t σ H fun vs H1 => sp (vs ++ dvs) H1 Q (E σ)
def tCallNE (n m : Nat) (sp : Sp) (gV : List V → List V → List V) (E : L2.St → XK) (t tk : TA) : TE := fun σ H Q => t σ H fun vs H1 => tk σ H1 fun zs H2 => vs.length = n ∧ zs.length = m ∧ sp (gV vs zs) H2 Q (E σ)
def tMethE (C : Addr) (m : Str) (sp : Sp) (dvs : List V) (E : L2.St → XK) (ta : TE) (t : TA) : TE := fun σ H Q => ta σ H fun y H1 => ∃ a dx fs, y = .ref a ∧ H1 a = some (.ins C dx fs) ∧ fs.lookup m = none ∧ t σ H1 fun vs H2 => sp (y :: (vs ++ dvs)) H2 Q (E σ)
def tMakeE (C : Addr) (sp : Sp) (dvs : List V) (E : L2.St → XK) (t : TA) : TE := fun σ H Q => t σ H fun vs H1 => ∀ y dx, H1 y = none → H1 dx = none → dx ≠ y →
  sp (.ref y :: (vs ++ dvs)) (upd (upd H1 dx (.own y)) y (.ins C dx [])) (fun v H2 => v = .non ∧ Q (.ref y) H2) (E σ)
section
variable {X : Cx} {CX : CXT} {k n : Nat} {f C : Addr} {fd : FuncData} {ps ks : List Str} {sp : Sp} {dvs : List V} {ds : List Value} {E : L2.St → XK} {x m : Str} {p pos apos : Pos} {e o : Expr} {es : List Expr} {kws : List Keyword} {ta : TE} {t tk : TA} {g : List Value → List Value → List Value} {gV : List V → List V → List V}
theorem call_end {pins : List (Addr × Obj)} {σ : L2.St} {H : Hp} {s s' : Shared} {Q : VK} {r : Result} (hx : PassS CX X E) (I : Inv X pins σ H s) (h : CR CX X.stack X.prog X.w H s Q (E σ) r s') :
    (match r with | .ok (.ret u) => EP X pins σ Q u s' | .ok _ => False | .error e => X.xe e s') := by
  cases r with
  | error e => exact hx pins σ H s e s' I h
  | ok fl =>
    cases fl with
    | ret u => exact I.after h
    | next => exact h
    | brk => exact h
    | cont => exact h
/-- the callee runs: us the values as handed, vs the values as bound -/
theorem callG {pins : List (Addr × Obj)} {σ : L2.St} {H : Hp} {s : Shared} {Q : VK} {us bs : List Value} {kw : List (Str × Value)} {vs : List V} (F : FnG X.prog X.w X.K X.mg X.base CX k f fd ps sp) (hgd : X.A.guards = some []) (hr : Room k X.A)
    (hb : BindsTo s fd ⟨us, kw⟩ (ps.zip bs)) (hx : PassS CX X E) (I : Inv X pins σ H s) (r : Vals vs bs) (h : sp vs H Q (E σ)) : wpAny (model X.prog X.w) X.A (call (.ref f) us kw) (EP X pins σ Q) X.xe s :=
  wpAny_call (codeAny_mono (F.run X.A hgd X.stack s H ⟨us, kw⟩ bs vs Q (E σ) hr I.env0 hb r h) fun r s' q => by
    have z := call_end hx I q
    cases r with
    | error e => exact z
    | ok fl => cases fl <;> exact z)
theorem bindsAt {fd : FuncData} {K : PySem.W.Frag} {s : Shared} {us : List Value} {vs : List V} (hb : Binds K fd ps ds) (hd : Vals dvs ds) (X : K.In s.heap) (r : Vals vs us) (hl : (vs ++ dvs).length = ps.length) : BindsTo s fd ⟨us, []⟩ (ps.zip (us ++ ds)) :=
  hb s us X ((r.append hd).length.symm.trans hl)
/-- f(e, ..) -/
theorem pe_cG (F : FnG X.prog X.w X.K X.mg X.base CX k f fd ps sp) (hgd : X.A.guards = some []) (hr : Room k X.A) (hg : Gl X x) (hm : X.mg x = some (.ref f)) (hk : PySem.W.keepIn X.K (.ref f) = true) (hb : Binds X.K fd ps ds) (hd : Vals dvs ds) (hx : PassS CX X E)
    (ha : PA X (e :: es) t) (hdb : (x == ("__debug__" : Str)) = false := by decide) (he : starEach (e :: es) X.env = (false, eval e X.env) :: starEach es X.env := by rfl) (hpl : (backTo pos (starEach es X.env)).any (·.1) = false := by rfl) :
    PE X (.Call (.Name x p) (e :: es) [] pos) (tCallE sp dvs E t) where
  run := fun pins s σ H Q I h => wpAny_Call_Name_kw (ld_glob I hg hm (PySem.W.callWith_K (h₀ := X.base) I.ok.mod.kin hk (thn (ha.run pos pins s σ H _ I h) fun us s1 ⟨vs, H1, I1, r, q⟩ =>
    ⟨I1.kIn, callG F hgd hr (bindsAt hb hd I1.kIn r (F.len _ _ _ _ q)) hx I1 (r.append hd) q⟩) he hpl) hdb)
/-- f(k = v, ..) -/
theorem pe_cGK0 (F : FnG X.prog X.w X.K X.mg X.base CX k f fd ps sp) (hgd : X.A.guards = some []) (hr : Room k X.A) (hg : Gl X x) (hm : X.mg x = some (.ref f)) (hk : PySem.W.keepIn X.K (.ref f) = true) (hb : KBn X.K fd ps 0 ks g gV) (hx : PassS CX X E)
    (hkw : PK X kws tk) (hall : (backToKw pos (keywordEach kws X.env)).all (·.1.isSome) = true := by rfl) (hks : (backToKw pos (keywordEach kws X.env)).filterMap (·.1) = ks := by rfl)
    (hdb : (x == ("__debug__" : Str)) = false := by decide) (hpl : ((backTo pos (starEach [] X.env)).any (·.1) || (backToKw pos (keywordEach kws X.env)).any (·.1.isNone)) = false := by rfl) :
    PE X (.Call (.Name x p) [] kws pos) (tCallNE 0 ks.length sp gV E tNil tk) where
  run := fun pins s σ H Q I h => by
    refine wpAny_Call_Name_kw (ld_glob I hg hm (PySem.W.callWith_KW0 (h₀ := X.base) I.ok.mod.kin hk hall (thn (hkw.run pos pins s σ H _ I h) fun ws s2 ⟨zs, H2, I2, rz, l1, l2, q2⟩ => ⟨I2.kIn, ?_⟩) hpl) hdb)
    rw [hks]
    exact callG F hgd hr (hb.to s2 [] ws I2.kIn rfl (rz.length.symm.trans l2)) hx I2 (hb.rel .nil rz) q2
/-- o.m(e, ..) -/
theorem pe_mG {pl : Sem Bool} (he : PE X o ta) (c : Cls X.K C) (hm : Meth X.K C m f) (F : FnG X.prog X.w X.K X.mg X.base CX k f fd ps sp) (hgd : X.A.guards = some []) (hr : Room k X.A) (hb : Binds X.K fd ps ds) (hd : Vals dvs ds) (hx : PassS CX X E) (ha : PA X (e :: es) t)
    (hst : starEach (e :: es) X.env = (false, eval e X.env) :: starEach es X.env := by rfl) (hpl : (backTo pos (starEach es X.env)).any (·.1) = false := by rfl)
    (ht : eval (.Call (.Attribute o m apos) (e :: es) [] pos) X.env = (do
      let recv ← eval o X.env
      standAt apos.atName
      let (fn, ahead) ← holding [recv] (getMethod recv m pl)
      callWith pos fn ahead (backTo pos (starEach (e :: es) X.env)) (backToKw pos (keywordEach [] X.env))) := by rfl) :
    PE X (.Call (.Attribute o m apos) (e :: es) [] pos) (tMethE C m sp dvs E ta t) where
  run := fun pins s σ H Q I h => by
    refine PySem.W.methodCall_KW (pl := pl) (thn (he.run pins s σ H _ I h) fun u s1 ⟨y, H1, I1, ry, a, dx, fs, ey, ea, l, q⟩ => ?_) ht
    subst ey
    cases ry
    refine getmeth_ok I1 ea c hm l (PySem.W.callWith_K (first := [.ref a]) (h₀ := X.base) I.ok.mod.kin hm.kp (thn (ha.run pos pins s1 σ H1 _ I1 q) fun us s2 ⟨vs, H2, I2, r, q2⟩ => ⟨I2.kIn, ?_⟩) hst hpl)
    exact callG F hgd hr (bindsAt (vs := .ref a :: vs) (us := .ref a :: us) hb hd I2.kIn (.cons rfl r) (F.len _ _ _ _ q2)) hx I2 (vs := .ref a :: (vs ++ dvs)) (.cons rfl (r.append hd)) q2
theorem pe_mG0 {pl : Sem Bool} (he : PE X o ta) (c : Cls X.K C) (hm : Meth X.K C m f) (F : FnG X.prog X.w X.K X.mg X.base CX k f fd ps sp) (hgd : X.A.guards = some []) (hr : Room k X.A) (hb : Binds X.K fd ps ds) (hd : Vals dvs ds) (hx : PassS CX X E)
    (ht : eval (.Call (.Attribute o m apos) [] [] pos) X.env = (do
      let recv ← eval o X.env
      standAt apos.atName
      let (fn, ahead) ← holding [recv] (getMethod recv m pl)
      callWith pos fn ahead (backTo pos (starEach [] X.env)) (backToKw pos (keywordEach [] X.env))) := by rfl) :
    PE X (.Call (.Attribute o m apos) [] [] pos) (tMethE C m sp dvs E ta tNil) where
  run := fun pins s σ H Q I h => by
    refine PySem.W.methodCall_KW (pl := pl) (thn (he.run pins s σ H _ I h) fun u s1 ⟨y, H1, I1, ry, a, dx, fs, ey, ea, l, q⟩ => ?_) ht
    subst ey
    cases ry
    refine getmeth_ok I1 ea c hm l ?_
    exact PySem.W.callWith_K0 (first := [.ref a]) I1.kIn hm.kp (callG F hgd hr (bindsAt (vs := [.ref a]) (us := [.ref a]) hb hd I1.kIn (.cons rfl .nil) (F.len _ _ _ _ q)) hx I1 (vs := .ref a :: dvs) (.cons rfl hd) q)
/-- C(e, ..): the instance is made, __init__ runs; bs: the values as bound -/
theorem made_guards {A : Around} {us : List Value} {kw : List (Str × Value)} (h : A.guards = some []) : (A.under (.builtin "type.__call__" ⟨.ref C :: us, kw⟩)).guards = some [] := by
  have e : (Code.builtin "type.__call__" ⟨.ref C :: us, kw⟩).guards = [] := rfl
  show pushGuards (Code.builtin "type.__call__" ⟨.ref C :: us, kw⟩).guards A.guards = some []
  rw [e, h] <;> rfl
theorem makeG {pins : List (Addr × Obj)} {σ : L2.St} {H : Hp} {s : Shared} {Q : VK} {us : List Value} {kw : List (Str × Value)} {bs : Value → List Value} {bv : V → List V} (M : L2.Mk X.K C f) (F : FnG X.prog X.w X.K X.mg X.base CX k f fd ps sp) (hgd : X.A.guards = some []) (hr : Room (k + 1) X.A)
    (hb : ∀ y s', X.K.In s'.heap → (bv (.ref y)).length = ps.length → BindsTo s' fd ⟨.ref y :: us, kw⟩ (ps.zip (bs (.ref y)))) (hx : PassS CX X E) (I : Inv X pins σ H s) (r : ∀ y, Vals (bv (.ref y)) (bs (.ref y)))
    (h : ∀ y dx, H y = none → H dx = none → dx ≠ y → sp (bv (.ref y)) (upd (upd H dx (.own y)) y (.ins C dx [])) (fun v H2 => v = .non ∧ Q (.ref y) H2) (E σ)) : wpAny (model X.prog X.w) X.A (call (.ref C) us kw) (EP X pins σ Q) X.xe s := by
  have hs := h (s.heap.objs.size + 1) s.heap.objs.size (I.hok.fresh (Nat.le_succ _)) (I.hok.fresh (Nat.le_refl _)) (Nat.ne_of_lt (Nat.lt_succ_self _))
  have J := Inv.made (C := C) I
  have bd := hb (s.heap.objs.size + 1) _ J.kIn (F.len _ _ _ _ hs)
  refine wpAny_call (make_map (f := f) I.kIn M.makes M.init (beq_iff_eq.mp M.fn) (codeAny_mono (F.run _ (made_guards hgd) X.stack _ _ ⟨Value.ref (s.heap.objs.size + 1) :: us, kw⟩ _ _ _ (E σ) (hr.make C us kw) (J.env0.make C us kw) bd (r _) hs) fun rr s' q => ?_))
  have z := call_end hx J q
  cases rr with
  | error e => exact z
  | ok fl =>
    cases fl with
    | ret u =>
      obtain ⟨v, H3, I3, rv, ev, q3⟩ := z
      subst ev
      exact ⟨rv, V.ref (s.heap.objs.size + 1), H3, I3, rfl, q3⟩
    | next => exact z
    | brk => exact z
    | cont => exact z
theorem pe_kG (M : L2.Mk X.K C f) (F : FnG X.prog X.w X.K X.mg X.base CX k f fd ps sp) (hgd : X.A.guards = some []) (hr : Room (k + 1) X.A) (hg : Gl X x) (hm : X.mg x = some (.ref C)) (hb : Binds X.K fd ps ds) (hd : Vals dvs ds) (hx : PassS CX X E)
    (ha : PA X (e :: es) t) (hdb : (x == ("__debug__" : Str)) = false := by decide) (he : starEach (e :: es) X.env = (false, eval e X.env) :: starEach es X.env := by rfl) (hpl : (backTo pos (starEach es X.env)).any (·.1) = false := by rfl) :
    PE X (.Call (.Name x p) (e :: es) [] pos) (tMakeE C sp dvs E t) where
  run := fun pins s σ H Q I h => wpAny_Call_Name_kw (ld_glob I hg hm (PySem.W.callWith_K (h₀ := X.base) I.ok.mod.kin M.kp (thn (ha.run pos pins s σ H _ I h) fun us s1 ⟨vs, H1, I1, r, q⟩ =>
    ⟨I1.kIn, makeG (bs := fun y => y :: (us ++ ds)) (bv := fun y => y :: (vs ++ dvs)) M F hgd hr (fun y s' ki hl => bindsAt (vs := .ref y :: vs) (us := .ref y :: us) hb hd ki (.cons rfl r) hl) hx I1 (fun y => .cons rfl (r.append hd)) q⟩) he hpl) hdb)
theorem pe_kG0 (M : L2.Mk X.K C f) (F : FnG X.prog X.w X.K X.mg X.base CX k f fd ps sp) (hgd : X.A.guards = some []) (hr : Room (k + 1) X.A) (hg : Gl X x) (hm : X.mg x = some (.ref C)) (hb : Binds X.K fd ps ds) (hd : Vals dvs ds) (hx : PassS CX X E)
    (hdb : (x == ("__debug__" : Str)) = false := by decide) : PE X (.Call (.Name x p) [] [] pos) (tMakeE C sp dvs E tNil) where
  run := fun pins s σ H Q I h => wpAny_Call_Name_kw (ld_glob I hg hm (PySem.W.callWith_K0 I.kIn M.kp
    (makeG (us := []) (bs := fun y => y :: ([] ++ ds)) (bv := fun y => y :: ([] ++ dvs)) M F hgd hr (fun y s' ki hl => bindsAt (vs := [.ref y]) (us := [.ref y]) hb hd ki (.cons rfl .nil) hl) hx I (fun y => .cons rfl hd) h)) hdb)
end
/-! ### calls by value -/
section
variable {c : Ctx} {ρ : Rho} {S : Sto} {F : D → Sto → Prop} {d : D}
/-- what is wanted of a callee's exception: what the caller wishes, or nothing is raised -/
inductive XOk (c : Ctx) (ρ : Rho) : (L2.St → XK) → (Addr → List (Str × D) → Sto → Prop) → Prop
  | same {Y : Addr → List (Str × D) → Sto → Prop} (h : ∀ C fs S, Y C fs S → c.Y C fs ρ S) : XOk c ρ c.E Y
  | none {E : L2.St → XK} : XOk c ρ E noY
theorem XOk.ok {c : Ctx} {E : L2.St → XK} {Y : Addr → List (Str × D) → Sto → Prop} {ρ : Rho} (x : XOk c ρ E Y) {σ : L2.St} {H : Hp} {S T : Sto} (I : In c σ H ρ S T) :
    ∀ (C : Addr) (y : Option Addr) (fs : List (Str × D)) (S' T' : Sto) (H' : Hp), Mv T H T' H' → Cells c.K H' S' T' → XRep c.K H' T' y fs → Y C fs S' → E σ (.ref C) y H' := by
  cases x with
  | same h => exact fun C y fs S' T' H' m cl x q => I.exc σ ρ C y fs S' T' H' m cl (I.mv m cl).sl x (h C fs S' q)
  | none => exact fun _ _ _ _ _ _ _ _ _ z => z.elim
theorem ve_f {p : Pt} {E : L2.St → XK} {Y} {t : TA} (x : XOk c ρ E Y) (h : VA c t ρ S fun ds S1 => p ds S1 F Y) : VE c (tCallE (spOf c.K p) [] E t) ρ S F := fun T σ H I Q k =>
  h T σ H I _ fun us ds S1 T1 H1 m1 c1 r1 h1 => ⟨ds, S1, T1, F, Y, by rw [List.append_nil]; exact r1, c1, h1, fun v d S2 T2 H2 m2 c2 r2 q => k v d S2 T2 H2 (m1.trans m2) c2 r2 q, x.ok (I.mv m1 c1)⟩
theorem ve_fk {p : Pt} {E : L2.St → XK} {Y} {t tk : TA} {n m : Nat} {gV : List V → List V → List V} {gD : List D → List D → List D} (x : XOk c ρ E Y) (hg : ∀ H T xs ys ds es, RepL c.K H T xs ds → RepL c.K H T ys es → RepL c.K H T (gV xs ys) (gD ds es))
    (h : VA c t ρ S fun ds S1 => VA c tk ρ S1 fun es S2 => ds.length = n ∧ es.length = m ∧ p (gD ds es) S2 F Y) : VE c (tCallNE n m (spOf c.K p) gV E t tk) ρ S F := fun T σ H I Q k =>
  h T σ H I _ fun us ds S1 T1 H1 m1 c1 r1 h1 => h1 T1 σ H1 (I.mv m1 c1) _ fun ws es S2 T2 H2 m2 c2 r2 ⟨l1, l2, h2⟩ => ⟨r1.length.trans l1, r2.length.trans l2, gD ds es, S2, T2, F, Y, hg _ _ _ _ _ _ (r1.mv m2) r2, c2, h2, fun v d S3 T3 H3 m3 c3 r3 q => k v d S3 T3 H3 (m1.trans (m2.trans m3)) c3 r3 q, x.ok (I.mv (m1.trans m2) c2)⟩
/-- an instance, by value or by reference -/
inductive IsI (S : Sto) : D → Addr → List (Str × D) → Prop
  | v {C : Addr} {fs : List (Str × D)} : IsI S (.ins C fs) C fs
  | c {l C : Addr} {fs : List (Str × D)} (h : S l = some (.ins C fs)) : IsI S (.ref l) C fs
theorem IsI.rd {K : PySem.W.Frag} {H : Hp} {T : Sto} {x : D} {C : Addr} {ds : List (Str × D)} {u : V} (h : IsI S x C ds) (cl : Cells K H S T) (r : Rep K H T u x) : ∃ a dx fs, u = .ref a ∧ H a = some (.ins C dx fs) ∧ RepF K H T fs ds := by
  cases h with
  | v => cases r with | ins s h r => exact ⟨_, _, _, rfl, h, r⟩
  | c h => cases r; obtain ⟨dx, fs, h1, r⟩ := cl.ok _ _ (cl.at h); exact ⟨_, dx, fs, rfl, h1, r⟩
theorem ve_fld {ta : TE} {f : Str} (h : VE c ta ρ S fun x S1 => ∃ C fs e, IsI S1 x C fs ∧ Cls c.K C ∧ NoAttr c.K C f ∧ fs.lookup f = some e ∧ F e S1) : VE c (tFld c.K ta f) ρ S F := fun T σ H I Q k =>
  h T σ H I _ fun vx x S1 T1 H1 m1 c1 r1 ⟨C, fs, e, hi, hc, hn, hl, q⟩ => by
    obtain ⟨a, dx, fv, rfl, ha, r⟩ := hi.rd c1 r1
    obtain ⟨v, h1, h2⟩ := r.lookup hl
    exact ⟨a, C, dx, fv, v, rfl, ha, hc, hn, h1, k v e S1 T1 H1 m1 c1 h2 q⟩
theorem vx_fld {ta tv : TE} {f : Str} {nx bk ct : Rho → Sto → Prop} {rt : D → Sto → Prop} (h : VE c tv ρ S fun y S1 => VE c ta ρ S1 fun x S2 => ∃ l C fs, x = .ref l ∧ S2 l = some (.ins C fs) ∧ Cls c.K C ∧ NoAttr c.K C f ∧ fs.length < 1000 ∧ nx ρ (put S2 l (.ins C (putD f y fs)))) :
    VX c (sFld c.K ta tv f) ρ S ⟨nx, rt, bk, ct⟩ := fun T σ H I D b =>
  h T σ H I _ fun vy y S1 T1 H1 m1 c1 r1 h1 => h1 T1 σ H1 (I.mv m1 c1) _ fun vx x S2 T2 H2 m2 c2 r2 ⟨l, C, fs, e, hl, hc, hn, hz, q⟩ => by
    subst e
    cases r2
    obtain ⟨dx, fv, hx, rf⟩ := c2.ok _ _ (c2.at hl)
    have w := mv_wr (H := H2) (d := .ins C (putD f y fs)) (o := .ins C dx (putF f vy fv)) (c2.at hl)
    have cl' : Cells c.K (upd H2 l (.ins C dx (putF f vy fv))) (put S2 l (.ins C (putD f y fs))) (put T2 l (.ins C (putD f y fs))) := c2.wr (c2.at hl) (cell_i upd_same ((RepF.put (r1.mv m2) rf).mv w))
    exact ⟨l, C, dx, fv, rfl, hx, hc, hn, by rw [rf.length]; exact hz, b.nx σ ρ _ _ _ (m1.trans (m2.trans w)) (I.mv (m1.trans (m2.trans w)) cl') q⟩
theorem ve_mt {p : Pt} {E : L2.St → XK} {Y} {ta : TE} {t : TA} {C : Addr} {m : Str} {dvs : List V} {dds : List D} (x : XOk c ρ E Y) (hd : ∀ H T, RepL c.K H T dvs dds)
    (h : VE c ta ρ S fun y S1 => ∃ fs, IsI S1 y C fs ∧ fs.lookup m = none ∧ VA c t ρ S1 fun ds S2 => p (y :: (ds ++ dds)) S2 F Y) : VE c (tMethE C m (spOf c.K p) dvs E ta t) ρ S F := fun T σ H I Q k =>
  h T σ H I _ fun vy y S1 T1 H1 m1 c1 r1 ⟨fs, hi, hl, h1⟩ => by
    obtain ⟨a, dx, fv, rfl, ha, r⟩ := hi.rd c1 r1
    exact ⟨a, dx, fv, rfl, ha, r.lookup_none hl, h1 T1 σ H1 (I.mv m1 c1) _ fun vs ds S2 T2 H2 m2 c2 r2 h2 => ⟨y :: (ds ++ dds), S2, T2, F, Y, .cons (r1.mv m2) (r2.append (hd _ _)), c2, h2, fun v d S3 T3 H3 m3 c3 r3 q => k v d S3 T3 H3 (m1.trans (m2.trans m3)) c3 r3 q, x.ok (I.mv (m1.trans m2) c2)⟩⟩
/-- a new instance: by reference -/
theorem ve_mk {p : Pt} {E : L2.St → XK} {Y} {t : TA} {C : Addr} {dvs : List V} {dds : List D} (x : XOk c ρ E Y) (hd : ∀ H T, RepL c.K H T dvs dds)
    (h : VA c t ρ S fun ds S1 => ∀ y, S1 y = none → p (.ref y :: (ds ++ dds)) (put S1 y (.ins C [])) (fun d S2 => d = .non ∧ F (.ref y) S2) Y) : VE c (tMakeE C (spOf c.K p) dvs E t) ρ S F := fun T σ H I Q k =>
  h T σ H I _ fun vs ds S1 T1 H1 m1 c1 r1 h1 => fun y dx hy hdx ne => by
    have hy2 : upd H1 dx (.own y) y = none := by rw [upd_ne (Ne.symm ne)]; exact hy
    have n1 : Mv T1 H1 T1 (upd H1 dx (.own y)) := mv_new hdx
    have n2 := mv_newc (S := T1) (d := .ins C []) (o := .ins C dx []) hy2
    have cl := (c1.new (o := .own y) hdx).newc (d := .ins C []) (o := .ins C dx []) hy2 (cell_i upd_same .nil)
    refine ⟨.ref y :: (ds ++ dds), put S1 y (.ins C []), put T1 y (.ins C []), _, Y, .cons (.ref y) ((r1.mv (n1.trans n2)).append (hd _ _)), cl, h1 y (c1.freeS hy), fun v d S3 T3 H3 m3 c3 r3 ⟨ed, q⟩ => ?_, x.ok (I.mv (m1.trans (n1.trans n2)) cl)⟩
    subst ed
    cases r3
    exact ⟨rfl, k _ _ S3 T3 H3 (m1.trans (n1.trans (n2.trans m3))) c3 (.ref y) q⟩
end
end VS
namespace VS
open PySem L2 C8 PySem.Spec PyProof.Rows
/-! ### what is shown: repr, == of data -/
mutual
def pd : D → PyData
  | .non => .none
  | .bl b => .bool b
  | .int i => .int i
  | .str x => .str x
  | .rol xs => .list (pdL xs)
  | .lst xs => .list (pdL xs)
  | .tup xs => .tuple (pdL xs)
  | .dK kvs => .dict (pdK kvs)
  | _ => .none
def pdL : List D → List PyData
  | [] => []
  | x :: xs => pd x :: pdL xs
def pdK : List (Key × D) → List (PyData × PyData)
  | [] => []
  | (k, x) :: xs => ((match k with | .inl i => .int i | .inr z => .str z), pd x) :: pdK xs
end
mutual
def isP : D → Bool
  | .non => true
  | .bl _ => true
  | .int _ => true
  | .str _ => true
  | .lst xs => isPL xs
  | .tup xs => isPL xs
  | .dK kvs => isPK kvs
  | _ => false
def isPL : List D → Bool
  | [] => true
  | x :: xs => isP x && isPL xs
def isPK : List (Key × D) → Bool
  | [] => true
  | (_, x) :: xs => isP x && isPK xs
end
/-- sys.modules is one of the base's objects -/
def SysOk (base : Heap) : Prop := ∃ o, base.get? sysModules = some o
section
variable {X : Cx} {pins : List (Addr × Obj)} {σ : L2.St} {H : Hp} {s : Shared} {T : Sto}
theorem SysOk.ne (hs : SysOk X.base) (I : Inv X pins σ H s) {a : Addr} {o : HO} (h : H a = some o) : sysModules ≠ a := fun e => by
  obtain ⟨ob, hb⟩ := hs
  have q := (I.bs _ _ hb).2
  rw [e, h] at q
  cases q
mutual
/-- told apart from what is known by reference -/
theorem Rep.any {K : PySem.W.Frag} {H : Hp} {S : Sto} : ∀ {v : V} {d : D}, Rep K H S v d → Rep K H (fun _ => none) v d
  | _, _, .non => .non
  | _, _, .bl b => .bl b
  | _, _, .int i => .int i
  | _, _, .str x => .str x
  | _, _, .ty n => .ty n
  | _, _, .ref a => .ref a
  | _, _, .rol s h r => .rol rfl h (RepL.any r)
  | _, _, .rolK h r => .rolK h (RepL.any r)
  | _, _, .lst s h r => .lst rfl h (RepL.any r)
  | _, _, .tup s h r => .tup rfl h (RepL.any r)
  | _, _, .tupK h r => .tupK h (RepL.any r)
  | _, _, .dK s h r => .dK rfl h (RepK.any r)
  | _, _, .ins s h r => .ins rfl h (RepF.any r)
  | _, _, .xcp s h r => .xcp rfl h (RepF.any r)
  | _, _, .xv s h s2 h2 r => .xv rfl h rfl h2 (RepF.any r)
theorem RepL.any {K : PySem.W.Frag} {H : Hp} {S : Sto} : ∀ {vs : List V} {ds : List D}, RepL K H S vs ds → RepL K H (fun _ => none) vs ds
  | _, _, .nil => .nil
  | _, _, .cons h t => .cons (Rep.any h) (RepL.any t)
theorem RepK.any {K : PySem.W.Frag} {H : Hp} {S : Sto} : ∀ {vs : List (Key × V)} {ds : List (Key × D)}, RepK K H S vs ds → RepK K H (fun _ => none) vs ds
  | _, _, .nil => .nil
  | _, _, .cons h t => .cons (Rep.any h) (RepK.any t)
theorem RepF.any {K : PySem.W.Frag} {H : Hp} {S : Sto} : ∀ {vs : List (Str × V)} {ds : List (Str × D)}, RepF K H S vs ds → RepF K H (fun _ => none) vs ds
  | _, _, .nil => .nil
  | _, _, .cons h t => .cons (Rep.any h) (RepF.any t)
end
mutual
theorem Rep.reads (hs : SysOk X.base) (I : Inv X pins σ H s) : ∀ (d : D) (v : V) (u : Value), Rep X.K H T v d → isP d = true → L2.RelV v u → ∃ as, Reads s.heap u (pd d) as ∧ sysModules ∉ as
  | .non, _, _, h, _, r => by cases h; cases r; exact ⟨[], .none, by simp⟩
  | .bl b, _, _, h, _, r => by cases h; cases r; exact ⟨[], .bool b, by simp⟩
  | .int i, _, _, h, _, r => by cases h; obtain ⟨t, rfl⟩ := r; exact ⟨[], .int i t, by simp⟩
  | .str x, _, _, h, _, r => by cases h; obtain ⟨t, rfl⟩ := r; exact ⟨[], .str x t, by simp⟩
  | .lst ds, _, _, h, hp, r => by
    cases h with
    | lst st h rl =>
      cases r
      obtain ⟨its, rv, ⟨o, n, ho, hc, _, hd⟩, _⟩ := I.list (SqL.of h)
      obtain ⟨as, hr, hn⟩ := RepL.reads hs I ds _ its rl hp rv
      exact ⟨_, .list ho hc hd hr, by simp only [List.mem_cons, not_or]; exact ⟨hs.ne I h, hn⟩⟩
  | .tup ds, _, _, h, hp, r => by
    cases h with
    | tup st h rl =>
      cases r
      obtain ⟨its, rv, ⟨o, ho, hc, n, hd⟩, _⟩ := I.tuple (SqT.of h)
      obtain ⟨as, hr, hn⟩ := RepL.reads hs I ds _ its rl hp rv
      exact ⟨_, .tuple ho hc hd hr, hn⟩
    | tupK h rl =>
      cases r
      obtain ⟨its, rv, ⟨o, ho, hc, n, hd⟩, _⟩ := I.tuple (.inr h)
      obtain ⟨as, hr, hn⟩ := RepL.reads hs I ds _ its rl hp rv
      exact ⟨_, .tuple ho hc hd hr, hn⟩
  | .dK ds, _, _, h, hp, r => by
    cases h with
    | dK st h rk =>
      cases r
      obtain ⟨_, _, vs, kv, o, es, ep, ho, ex, hd, _, pr, _⟩ := h.ok I.hok
      obtain ⟨as, h1, h2, hn⟩ := RepK.reads hs I ds _ vs es.toList rk hp kv pr
      refine ⟨_, .dict ho ex.1 hd h1 h2, ?_⟩
      simp only [List.append_nil, List.mem_cons, List.mem_append, not_or]
      exact ⟨⟨h.elim (fun h => hs.ne I h) fun ⟨_, h⟩ => hs.ne I h, List.not_mem_nil⟩, hn⟩
  | .ty _, _, _, _, hp, _ => by cases hp
  | .ref _, _, _, _, hp, _ => by cases hp
  | .rol _, _, _, _, hp, _ => by cases hp
  | .hid, _, _, _, hp, _ => by cases hp
  | .ins _ _, _, _, _, hp, _ => by cases hp
  | .xcp _ _ _ _, _, _, _, hp, _ => by cases hp
  | .xv _ _, _, _, _, hp, _ => by cases hp
theorem RepL.reads (hs : SysOk X.base) (I : Inv X pins σ H s) : ∀ (ds : List D) (vs : List V) (us : List Value), RepL X.K H T vs ds → isPL ds = true → L2.Vals vs us → ∃ as, ReadsAll s.heap us (pdL ds) as ∧ sysModules ∉ as
  | [], _, _, h, _, r => by cases h; cases r; exact ⟨[], .nil, by simp⟩
  | d :: ds, _, _, h, hp, r => by
    have hp' : (isP d && isPL ds) = true := hp
    rw [Bool.and_eq_true] at hp'
    cases h with
    | cons h t =>
      cases r with
      | cons r1 r2 =>
        obtain ⟨as, q1, n1⟩ := Rep.reads hs I d _ _ h hp'.1 r1
        obtain ⟨bs, q2, n2⟩ := RepL.reads hs I ds _ _ t hp'.2 r2
        exact ⟨_, .cons q1 q2, by simp only [List.mem_append, not_or]; exact ⟨n1, n2⟩⟩
theorem RepK.reads (hs : SysOk X.base) (I : Inv X pins σ H s) : ∀ (ds : List (Key × D)) (vs : List (Key × V)) (us : List (Key × Value)) (es : List DictEntry), RepK X.K H T vs ds → isPK ds = true → KV vs us → Pairs (mixKind X.prog X.w) es us →
    ∃ as, ReadsAll s.heap (es.map (·.key)) ((pdK ds).map (·.1)) [] ∧ ReadsAll s.heap (es.map (·.val)) ((pdK ds).map (·.2)) as ∧ sysModules ∉ as
  | [], _, _, _, h, _, r, p => by cases h; cases r; cases p; exact ⟨[], .nil, .nil, by simp⟩
  | (k, d) :: ds, _, _, _, h, hp, r, p => by
    have hp' : (isP d && isPK ds) = true := hp
    rw [Bool.and_eq_true] at hp'
    cases h with
    | cons h t =>
      cases r with
      | cons r1 r2 =>
        cases p with
        | @cons e kv es kvs p1 p2 p3 =>
          obtain ⟨ek, er⟩ := r1
          obtain ⟨as, q1, n1⟩ := Rep.reads hs I d _ _ h hp'.1 er
          obtain ⟨bs, q2, q3, n2⟩ := RepK.reads hs I ds _ _ _ t hp'.2 r2 p3
          have kk : keyIs k e.key = true := by
            have ek' := ek
            dsimp only at ek'
            rw [ek']
            exact p1
          refine ⟨as ++ bs, ?_, ?_, by simp only [List.mem_append, not_or]; exact ⟨n1, n2⟩⟩
          · rcases keyIs_shape kk with ⟨i, t, e1, e2⟩ | ⟨x, t, e1, e2⟩
            · subst e1
              rw [List.map_cons, e2]
              exact ReadsAll.cons (as := []) (bs := []) (.int i t) q2
            · subst e1
              rw [List.map_cons, e2]
              exact ReadsAll.cons (as := []) (bs := []) (.str x t) q2
          · rw [List.map_cons, p2]
            exact ReadsAll.cons q1 q3
end
end
def rRepr (K : PySem.W.Frag) : CR1 := fun xs H Q => ∃ (v : V) (d : D) (T : Sto), xs = [v] ∧ Rep K H T v d ∧ isP d = true ∧ (pd d).showable = true ∧ (pd d).shown.length ≤ sizeLine ∧ (pd d).depth ≤ 50 ∧ Q (.str (pd d).shown) H
def rEqP (K : PySem.W.Frag) : R2 := fun x y H Q => ∃ (d e : D) (T : Sto), Rep K H T x d ∧ Rep K H T y e ∧ isP d = true ∧ isP e = true ∧ SeqAt.shaped (pd d) = true ∧ SeqAt.shaped (pd e) = true ∧ Q (.bl (PyData.eqv (pd d) (pd e))) H
def rNeP (K : PySem.W.Frag) : R2 := fun x y H Q => ∃ (d e : D) (T : Sto), Rep K H T x d ∧ Rep K H T y e ∧ isP d = true ∧ isP e = true ∧ SeqAt.shaped (pd d) = true ∧ SeqAt.shaped (pd e) = true ∧ Q (.bl (!PyData.eqv (pd d) (pd e))) H
section
variable {X : Cx} {k : Nat}
theorem repr_any {pins : List (Addr × Obj)} {σ : L2.St} {H : Hp} {s : Shared} {Q : VK} {u : Value} {d : PyData} {as : List Addr} (hgd : X.A.guards = some []) (hr : Room k X.A) (I : Inv X pins σ H s) (rd : Reads s.heap u d as) (hn : sysModules ∉ as)
    (sh : d.showable = true) (sz : d.shown.length ≤ sizeLine) (dp : d.depth ≤ 50) (q : Q (.str d.shown) H) : wpAny (model X.prog X.w) X.A (call (.builtin "repr") [u]) (EP X pins σ Q) X.xe s := by
  have hu : X.A.units + (d.depth + 1) < cLine := Nat.lt_of_le_of_lt (by omega) hr.units
  have whole : ∀ a, u = .ref a → wpAny (model X.prog X.w) X.A (call (.builtin "repr") [u]) (EP X pins σ Q) X.xe s := fun a e => by
    subst e
    exact repr_of_reads' rd sh (fun _ => hn) hgd hu (fun _ _ e => e) (fun h' u tk hk => ⟨.str d.shown, H, I.kept hk, ⟨_, rfl⟩, q⟩) sz
  cases rd with
  | none => exact PySem.P.repr_of_none ⟨.str (PyData.shown .none), H, I.tok _, ⟨_, rfl⟩, q⟩
  | bool b => exact PySem.P.repr_of_bool ⟨.str (PyData.shown (.bool b)), H, I.tok _, ⟨_, rfl⟩, q⟩
  | int i t => exact PySem.P.repr_of_int (of_decide_eq_true sh) ⟨.str (PyData.shown (.int i)), H, I.tok _, ⟨_, rfl⟩, q⟩
  | str x t => exact PySem.P.repr_of_str ⟨.str (PyData.shown (.str x)), H, I.tok _, ⟨_, rfl⟩, q⟩ sz
  | list h1 h2 h3 h4 => exact whole _ rfl
  | tuple h1 h2 h3 h4 => exact whole _ rfl
  | dict h1 h2 h3 h4 h5 => exact whole _ rfl
theorem c_repr (hgd : X.A.guards = some []) (hr : Room k X.A) (hs : SysOk X.base) : CallR X (.builtin "repr") (rRepr X.K) := by
  intro pins s σ H xs us Q I r h
  obtain ⟨v, d, T, rfl, rp, ip, sh, sz, dp, q⟩ := h
  obtain ⟨u, rfl, rv⟩ := vals1 r
  obtain ⟨as, rd, hn⟩ := Rep.reads hs I d v u rp ip rv
  exact repr_any hgd hr I rd hn sh sz dp q
theorem op_eqP (hr : Room k X.A) (hs : SysOk X.base) : OpR X (compareOp .Eq) (rEqP X.K) := by
  intro pins s σ H x y v u Q I rx ry h
  obtain ⟨d, e, T, r1, r2, i1, i2, s1, s2, q⟩ := h
  obtain ⟨as, h1, _⟩ := Rep.reads hs I d x v r1 i1 rx
  obtain ⟨bs, h2, _⟩ := Rep.reads hs I e y u r2 i2 ry
  exact SeqAt.compareEq_shaped h1 h2 s1 s2 hr.units ⟨.bl _, H, I, rfl, q⟩
theorem op_neP (hr : Room k X.A) (hs : SysOk X.base) : OpR X (compareOp .NotEq) (rNeP X.K) := by
  intro pins s σ H x y v u Q I rx ry h
  obtain ⟨d, e, T, r1, r2, i1, i2, s1, s2, q⟩ := h
  obtain ⟨as, h1, _⟩ := Rep.reads hs I d x v r1 i1 rx
  obtain ⟨bs, h2, _⟩ := Rep.reads hs I e y u r2 i2 ry
  exact SeqAt.compareNe_shaped h1 h2 s1 s2 hr.units ⟨.bl _, H, I, rfl, q⟩
end
section
variable {c : Ctx} {ρ : Rho} {S : Sto} {F : D → Sto → Prop}
/-- d, its cells read: what x is when all is known by value -/
inductive Vw (S : Sto) : D → D → Prop
  | v {d : D} : Vw S d d
  | c {l : Addr} {d : D} (h : S l = some d) (n : d ≠ .hid) : Vw S (.ref l) d
theorem Vw.rd {K : PySem.W.Frag} {H : Hp} {T : Sto} {x d : D} {u : V} (h : Vw S x d) (cl : Cells K H S T) (r : Rep K H T u x) : ∃ T', Mk T H T' H ∧ Rep K H T' u d := by
  cases h with
  | v => exact ⟨T, Mv.refl.toMk, r⟩
  | c h n => cases r; exact ⟨_, (mv_del (cl.nohid h n)).toMk, cl.rep (cl.at h) (cl.nohid h n)⟩
theorem rc_repr {x d : D} (h : Vw S x d) (ip : isP d = true) (sh : (pd d).showable = true) (sz : (pd d).shown.length ≤ sizeLine) (dp : (pd d).depth ≤ 50) (q : F (.str (pd d).shown) S) : RC c (rRepr c.K) [x] S F := fun T us H cl r Q k => by
  cases r with
  | cons h1 t =>
    cases t
    obtain ⟨T', _, r'⟩ := h.rd cl h1
    exact ⟨_, d, T', rfl, r', ip, sh, sz, dp, k _ _ S T H Mv.refl cl (.str _) q⟩
theorem rv_eqP {x y d e : D} (h1 : Vw S x d) (h2 : Vw S y e) (i1 : isP d = true) (i2 : isP e = true) (s1 : SeqAt.shaped (pd d) = true) (s2 : SeqAt.shaped (pd e) = true) (q : F (.bl (PyData.eqv (pd d) (pd e))) S) : RV c (rEqP c.K) x y S F := fun T u w H cl r1 r2 Q k => by
  obtain ⟨T1, m1, q1⟩ := h1.rd cl r1
  obtain ⟨T2, m2, q2⟩ := h2.rd cl r2
  exact ⟨d, e, fun _ => none, q1.any, q2.any, i1, i2, s1, s2, k _ _ S T H Mv.refl cl (.bl _) q⟩
theorem rv_neP {x y d e : D} (h1 : Vw S x d) (h2 : Vw S y e) (i1 : isP d = true) (i2 : isP e = true) (s1 : SeqAt.shaped (pd d) = true) (s2 : SeqAt.shaped (pd e) = true) (q : F (.bl (!PyData.eqv (pd d) (pd e))) S) : RV c (rNeP c.K) x y S F := fun T u w H cl r1 r2 Q k => by
  obtain ⟨T1, m1, q1⟩ := h1.rd cl r1
  obtain ⟨T2, m2, q2⟩ := h2.rd cl r2
  exact ⟨d, e, fun _ => none, q1.any, q2.any, i1, i2, s1, s2, k _ _ S T H Mv.refl cl (.bl _) q⟩
end
/-! ### the law's own call -/
/-- the law's promise by value: told True, of any script -/
theorem law_val {P : Program} {w : World} {K : PySem.W.Frag} {mg mb : Str → Option Value} {CX : CXT} {k : Nat} {fa a : Addr} {fd : FuncData} {x : Str} {p : Pt} {s1 : Shared} {vs : List Value} {ns : List Int}
    (kin : K.In s1.heap) (hmg : s1.heap.Ns mainGlobals mg) (hmb : s1.heap.Ns builtinsNs mb) (boot : ∀ x : Str, x ≠ "__name__" → mb x = bootBuiltins x) (nolim : s1.heap.NoLimit) (sys : ∃ mm, s1.heap.Ns sysModules mm) (gens : s1.gens = #[])
    (ha : s1.heap.get? a = some { cls := .type "list", data := .seq vs.toArray }) (hi : IntsAre vs ns) (hl : ns.length ≤ sizeLine) (room : Room k callerA)
    (F : ∀ base : Heap, K.In base → base.Ns mainGlobals mg → SysOk base → FnG P w K mg base CX k fa fd [x] (spOf K p)) (bd : ∀ (s : Shared) (u : Value), BindsTo s fd ⟨[u], []⟩ [(x, u)])
    (hp : p [.rol (ns.map .int)] (fun _ => none) (fun d _ => d = .bl true) noY) (noexc : ∀ H e s', CX [] H s1 (fun _ _ _ => False) e s' → False) :
    codeAny (model P w) callerA (.call (.ref fa) ⟨[.ref a], []⟩) (fun r s' => r = .ok (.ret (.bool true)) ∧ OldK s1.heap s'.heap ∧ s'.os = s1.os ∧ AllBare s'.gens) s1 := by
  have iv := vals_ints hi
  -- whichever way the script is known: H tells it, and nothing else
  suffices go : ∀ H : Hp, (∀ b u, H b = some u → b = a ∧ u = .frz { cls := .type "list", data := .seq vs.toArray } (.lst (ns.map V.int))) → (H a ≠ none → K.lookup a = none) → Rep K H (fun _ => none) (.ref a) (.rol (ns.map .int)) →
      codeAny (model P w) callerA (.call (.ref fa) ⟨[.ref a], []⟩) (fun r s' => r = .ok (.ret (.bool true)) ∧ OldK s1.heap s'.heap ∧ s'.os = s1.os ∧ AllBare s'.gens) s1 by
    cases hk : K.lookup a with
    | none =>
      refine go (fun b => if b = a then some (.frz { cls := .type "list", data := .seq vs.toArray } (.lst (ns.map V.int))) else none) (fun b u z => ?_) (fun _ => hk) (.rol rfl (if_pos rfl) RepL.ofInts)
      by_cases e : b = a
      · have z' := (if_pos e).symm.trans z
        cases z'
        exact ⟨e, rfl⟩
      · have z' := (if_neg e).symm.trans z
        cases z'
    | some o =>
      have e := kin a o hk
      rw [ha] at e
      cases e
      exact go (fun _ => none) (fun b u z => by cases z) (fun z => absurd rfl z) (.rolK ⟨_, vs.toArray, _, hk, rfl, rfl, rfl, by simpa [hi.length] using hl, by simpa using iv⟩ RepL.ofInts)
  intro H only apart rep
  have kept : ∀ {b : Addr} {o : Obj}, s1.heap.get? b = some o → b ≠ a → (hidT s1.heap H).get? b = some o := fun {b o} e n => hidT_get e (by
    cases q : H b with
    | none => rfl
    | some u => exact absurd (only b u q).1 n)
  have nsk : ∀ {b : Addr} {m : Str → Option Value}, s1.heap.Ns b m → (hidT s1.heap H).Ns b m := fun {b m} ⟨o, es, ep, e, d, r⟩ => ⟨o, es, ep, kept e (fun z => by
    subst z
    rw [ha] at e
    have e2 := Option.some.inj e
    rw [← e2] at d
    cases d), d, r⟩
  have kinB : K.In (hidT s1.heap H) := fun b o e => hidT_get (kin b o e) (by
    cases q : H b with
    | none => rfl
    | some u =>
      have z := (only b u q).1
      subst z
      rw [apart (by rw [q]; simp)] at e
      cases e)
  have hok : HOk P w H s1.heap := fun b u z => by
    obtain ⟨e1, e2⟩ := only b u z
    subst e1 e2
    exact ⟨ha, by simpa using hl, vs, _, iv, ha⟩
  have sysB : SysOk (hidT s1.heap H) := by
    obtain ⟨mm, h⟩ := sys
    obtain ⟨o, _, _, e, _⟩ := nsk h
    exact ⟨o, e⟩
  have mod : Mod K mg (hidT s1.heap H) := ⟨kinB, nsk hmg, ⟨mb, nsk hmb, boot⟩, by obtain ⟨mc, h1, h2⟩ := nolim; exact ⟨mc, nsk h1, h2⟩⟩
  have en : Env0 P w K mg (hidT s1.heap H) callerA [] s1 H := ⟨rfl, mod, fun b o e => of_hidT e, Nat.le_of_eq (hidT_size _ _), trivial, fun b hb => absurd (show b ∈ ([] : List Addr) from hb) (by simp), hok, .of_eq gens⟩
  have cells : Cells K H (fun _ => none) (fun _ => none) := ⟨fun _ => .inl ⟨rfl, by simp⟩, fun _ _ z => by cases z⟩
  have told : spOf K p [.ref a] H (fun v _ => v = .bl true) (fun _ _ _ => False) := ⟨_, _, _, _, _, .cons rep .nil, cells, hp, fun v d S' T' H' _ _ r e => by subst e; cases r; rfl, fun _ _ _ _ _ _ _ _ _ z => z.elim⟩
  refine codeAny_mono ((F _ kinB (nsk hmg) sysB).run callerA rfl [] s1 H ⟨[.ref a], []⟩ [.ref a] [.ref a] _ _ room en (bd s1 (.ref a)) (.cons rfl .nil) told) fun r s' h => ?_
  cases r with
  | error e => exact (noexc H e s' h).elim
  | ok fl =>
    cases fl with
    | next => exact False.elim h
    | brk => exact False.elim h
    | cont => exact False.elim h
    | ret u =>
      obtain ⟨v, H', os, bare, un, hok', rv, q⟩ := h
      have q' : v = .bl true := q
      subst q'
      cases rv
      refine ⟨rfl, OldK.of_keep fun b o e => ?_, os, bare⟩
      cases z : H b with
      | none => exact un.keep b o e z (fun m => absurd (show b ∈ ([] : List Addr) from m) (by simp)) (by simp)
      | some u =>
        obtain ⟨e1, e2⟩ := only b u z
        subst e2
        have f1 := (hok b _ z).1
        have f2 := (hok' b _ (un.frzs b _ _ z)).1
        rw [e] at f1
        cases f1
        exact f2
/-- the goal that k_head leaves, from the law's promise by value -/
theorem walk_val {l : PySem.W.OpenLaw} {n k : Nat} {q : Program} {loose : List Str} {XP : (Str → Option Value) → Heap → Prop} {YP : World → Heap → Prop} {d : DefRec} {K : Params → PySem.W.Frag} {CX : World → CXT} {p : PySem.W.Frag → Pt} {x : Str}
    (hn : l.most = some n) (hn2 : n ≤ sizeLine) (hdf : d.params.defaults = []) (room : Room k callerA) (noimp : importsNone q = true) (hY : ∀ (w : World) (h : Heap), YP w h → (K w.params).In h)
    (F : ∀ (w : World) (mg : Str → Option Value) (fa : Addr) (h : Heap), (K w.params).In h → h.Ns mainGlobals mg → mg d.name = some (.ref fa) →
      ∃ fd : FuncData, (∀ (s : Shared) (u : Value), BindsTo s fd ⟨[u], []⟩ [(x, u)]) ∧ ∀ base : Heap, (K w.params).In base → base.Ns mainGlobals mg → SysOk base → FnG l.prog w (K w.params) mg base (CX w) k fa fd [x] (spOf (K w.params) (p (K w.params))))
    (hp : ∀ (K : PySem.W.Frag) (ns : List Int), ns.length ≤ n → p K [.rol (ns.map .int)] (fun _ => none) (fun d _ => d = .bl true) noY) (noexc : ∀ (w : World) (H : Hp) (s : Shared) (e : Value) (s' : Shared), CX w [] H s (fun _ _ _ => False) e s' → False) :
    PySem.W.WalkO q loose XP YP l.row.toRowW d [] (fun f vs => PySem.call f vs) :=
  Att.attach_call hn hdf fun w s₀ s₁ mg mb fa o pm cd doc a vs ns G Y ho hd hcd hmg hobj hints hlen hg => by
    obtain ⟨fd, hb, hF⟩ := F w mg fa _ (hY w _ Y) G.T.g hmg
    exact law_val (hY w _ Y) G.T.g G.T.b G.T.builtins G.T.nolimit (let ⟨mm, h, _⟩ := (G.T.seer noimp).mods; ⟨mm, h⟩) hg hobj hints (Nat.le_trans hlen hn2) room hF hb (hp _ ns hlen) fun H e s' => noexc w H s₁ e s'
end VS
namespace VS
open PySem L2 C8 PySem.Spec PyProof.Rows
/-! ### a def that may be called -/
structure Cf (P : Program) (w : World) (K : PySem.W.Frag) (mg : Str → Option Value) (base : Heap) (CX : CXT) (k : Nat) (x : Str) (st : Stmt) (dvs : List V) (ps : List Str) (p : Pt) (f : Addr) (fd : FuncData) : Prop where
  fn : FnG P w K mg base CX k f fd ps (spOf K p)
  df : Fd K x x st dvs f fd
  mg : mg x = some (.ref f)
  b : Binds K fd ps []
theorem Cf.kp {P : Program} {w : World} {K : PySem.W.Frag} {mg : Str → Option Value} {base : Heap} {CX : CXT} {k : Nat} {x : Str} {st : Stmt} {dvs : List V} {ps : List Str} {p : Pt} {f : Addr} {fd : FuncData} (c : Cf P w K mg base CX k x st dvs ps p f fd) : PySem.W.keepIn K (.ref f) = true := c.df.kp
theorem Cf.v {P : Program} {w : World} {K : PySem.W.Frag} {mg : Str → Option Value} {base : Heap} {CX : CXT} {k : Nat} {x : Str} {st : Stmt} {dvs : List V} {ps : List Str} {p : Pt} {f : Addr} {fd : FuncData} (_ : Cf P w K mg base CX k x st dvs ps p f fd) : Vals [] [] := .nil
/-- arguments by their places among the written ones -/
def pick {α : Type} (idx : List Nat) (us ws : List α) : List α := idx.filterMap fun i => (us ++ ws)[i]?
theorem pick_vals {vs zs : List V} {us ws : List Value} (a : Vals vs us) (b : Vals zs ws) : ∀ idx : List Nat, Vals (pick idx vs zs) (pick idx us ws)
  | [] => .nil
  | i :: idx => by
    have ih := pick_vals a b idx
    have r := a.append b
    unfold pick at *
    cases e : (vs ++ zs)[i]? with
    | none =>
      rw [List.filterMap_cons_none e, List.filterMap_cons_none (r.none_of e)]
      exact ih
    | some v =>
      obtain ⟨u, h1, h2⟩ := r.get e
      rw [List.filterMap_cons_some e, List.filterMap_cons_some h1]
      exact .cons h2 ih
theorem pick_rep {K : PySem.W.Frag} {H : Hp} {T : Sto} {vs zs : List V} {us ws : List D} (a : RepL K H T vs us) (b : RepL K H T zs ws) : ∀ idx : List Nat, RepL K H T (pick idx vs zs) (pick idx us ws)
  | [] => .nil
  | i :: idx => by
    have ih := pick_rep a b idx
    have r := a.append b
    unfold pick at *
    cases e : (us ++ ws)[i]? with
    | none =>
      have e' : (vs ++ zs)[i]? = none := by
        rw [List.getElem?_eq_none_iff] at e ⊢
        rw [r.length]
        exact e
      rw [List.filterMap_cons_none e, List.filterMap_cons_none e']
      exact ih
    | some v =>
      obtain ⟨u, h1, h2⟩ := r.get e
      rw [List.filterMap_cons_some e, List.filterMap_cons_some h1]
      exact .cons h2 ih
theorem kbn {K : PySem.W.Frag} {x qual : Str} {st : Stmt} {f : Addr} {fd : FuncData} {ps : List Str} (F : Fd K x qual st [] f fd) (n : Nat) (ks : List Str) (idx : List Nat)
    (h : ∀ (kV doc pm : Value) (an : Option Addr) (cdv ct : Value) (us ws : List Value), us.length = n → ws.length = ks.length → bindArgs (PySem.W.fnOf x qual (defArgs st) (defBody st) (defScope st) .none kV doc pm an cdv ct) ⟨us, ks.zip ws⟩ = pure (ps.zip (pick idx us ws))) :
    KBn K fd ps n ks (pick idx) (pick idx) := by
  obtain ⟨oc, od, dV, kV, doc, pm, an, cdv, ct, osl, rfl, lk, hcd, hD, hK⟩ := F.ex
  rcases hD with ⟨_, rfl⟩ | ⟨e, _⟩
  · exact ⟨fun s us ws _ l1 l2 => .of_eq (h kV doc pm an cdv ct us ws l1 l2), fun a b => pick_vals a b idx⟩
  · exact absurd rfl e
section
variable {c : Ctx} {ρ : Rho} {S : Sto} {F : D → Sto → Prop} {d : D}
/-- f(.., k = v, ..) -/
theorem ve_kw {p : Pt} {E : L2.St → XK} {Y} {t tk : TA} {n m : Nat} {idx : List Nat} (x : XOk c ρ E Y) (h : VA c t ρ S fun ds S1 => VA c tk ρ S1 fun es S2 => ds.length = n ∧ es.length = m ∧ p (pick idx ds es) S2 F Y) : VE c (tCallNE n m (spOf c.K p) (pick idx) E t tk) ρ S F :=
  ve_fk x (fun H T xs ys ds es a b => pick_rep a b idx) h
/-! ### the branches of a test -/
theorem br {p A B : Prop} [Decidable p] (h1 : p → A) (h2 : ¬ p → B) : (decide p = true → A) ∧ (decide p = false → B) := ⟨fun h => h1 (of_decide_eq_true h), fun h => h2 (of_decide_eq_false h)⟩
theorem brN {p A B : Prop} [Decidable p] (h1 : ¬ p → A) (h2 : p → B) : ((!decide p) = true → A) ∧ ((!decide p) = false → B) := ⟨fun h => h1 (by simpa using h), fun h => h2 (by simpa using h)⟩
theorem brB {b : Bool} {A B : Prop} (h1 : b = false → A) (h2 : b = true → B) : ((!b) = true → A) ∧ ((!b) = false → B) := ⟨fun h => h1 (by simpa using h), fun h => h2 (by simpa using h)⟩
theorem brT {b : Bool} {A B : Prop} (h : b = true) (a : A) : (b = true → A) ∧ (b = false → B) := ⟨fun _ => a, fun z => (by rw [h] at z; cases z)⟩
theorem brF {b : Bool} {A B : Prop} (h : b = false) (a : B) : (b = true → A) ∧ (b = false → B) := ⟨fun z => (by rw [h] at z; cases z), fun _ => a⟩
/-- [e for x in xs], each by itself -/
theorem ve_lcM (f : D → D) {wi : TI} {g : TG} {tt : TT} {te : TE} {vs : List Nat}
    (h : VI c wi ρ S fun ds S1 => ds.length ≤ 100000 ∧ (∀ d ∈ ds, VGw c vs g d (wipeR ρ vs) S1 fun ρ3 S3 => VT c tt ρ3 S3 fun b S4 => b = true ∧ VE c te ρ3 S4 fun y S5 => y = f d ∧ S5 = S1) ∧ F (.lst (ds.map f)) S1) : VE c (tLc wi g tt te vs) ρ S F := by
  refine ve_lc (fun T σ H I R k => h T σ H I R fun J ds S1 T1 H1 m1 c1 w ⟨h1, h2, h3⟩ => k J ds S1 T1 H1 m1 c1 w ⟨h1, fun i acc S2 => acc = (ds.take i).map f ∧ S2 = S1, ⟨rfl, rfl⟩, ?_, ?_⟩)
  · rintro i d acc S2 hd ⟨e1, rfl⟩ hl T0 u0 σ0 H0 I0 r0 Q0 k0
    refine h2 d (List.mem_of_getElem? hd) T0 u0 σ0 H0 I0 r0 Q0 fun σ' ρ' S' T' H' hw m I' q => k0 σ' ρ' S' T' H' hw m I' ?_
    refine q.imp fun b S4 ⟨hb, hv⟩ => ?_
    subst hb
    refine ⟨fun _ => hv.imp fun y S5 ⟨e2, e3⟩ => ⟨?_, e3⟩, fun z => by cases z⟩
    rw [List.take_succ, hd, e1, e2, List.map_append] <;> rfl
  · rintro acc S2 ⟨e1, rfl⟩ _
    rw [List.take_length] at e1
    rw [e1]
    exact h3
/-- both ways of an if meet in J -/
theorem brC {p : Prop} [Decidable p] {t u : TS} {ρ' : Rho} {S' : Sto} {nx bk ct : Rho → Sto → Prop} {rt : D → Sto → Prop} (J : Rho → Sto → Prop) (h1 : p → VX c t ρ S ⟨J, rt, bk, ct⟩) (h2 : ¬ p → VX c u ρ' S' ⟨J, rt, bk, ct⟩) (k : ∀ ρ1 S1, J ρ1 S1 → nx ρ1 S1) :
    (decide p = true → VX c t ρ S ⟨nx, rt, bk, ct⟩) ∧ (decide p = false → VX c u ρ' S' ⟨nx, rt, bk, ct⟩) :=
  br (fun h => (h1 h).imp k (fun _ _ q => q) (fun _ _ q => q) (fun _ _ q => q)) (fun h => (h2 h).imp k (fun _ _ q => q) (fun _ _ q => q) (fun _ _ q => q))
theorem ex_bl {b : Bool} {G : Bool → Prop} (h : G b) : ∃ k, D.bl b = D.bl k ∧ G k := ⟨b, rfl, h⟩
theorem ex_ref {b : Addr} {G : Addr → Prop} (h : G b) : ∃ k, D.ref b = D.ref k ∧ G k := ⟨b, rfl, h⟩
theorem ex_str {b : Str} {G : Str → Prop} (h : G b) : ∃ k, D.str b = D.str k ∧ G k := ⟨b, rfl, h⟩
theorem ex_int {b : Int} {G : Int → Prop} (h : G b) : ∃ k, D.int b = D.int k ∧ G k := ⟨b, rfl, h⟩
theorem cpow {i j : Int} (h0 : 0 ≤ j) (h1 : j ≤ 1000000) (h2 : i.natAbs < 2 ^ 64) : CPow i j := ⟨h0, h1, h2⟩
theorem cmulW {i j : Int} (a : i.natAbs < 2 ^ 64) (b : j.natAbs < 2 ^ 64) : CMulW i j := wide_mul a b (by decide) (by decide) (by decide)
theorem cdivW {i j : Int} (a : 0 < j) (b : j < 2 ^ 128) : CDivW i j := wide_div (b := 128) a (by omega) (by decide) (by decide)
end
end VS
namespace VS
open PySem L2 C8 PySem.Spec PyProof.Rows
theorem szl : 1000000 ≤ sizeLine := by decide
/-! ### texts of plain signs -/
def Asc (n : Nat) (z : Str) : Prop := z.length ≤ n ∧ ∀ c ∈ z.cps.toList, c < 128
theorem str_len (z : Str) : z.cps.toList.length = z.length := Array.length_toList
theorem Asc.mono {n m : Nat} {z : Str} (h : Asc n z) (l : n ≤ m) : Asc m z := ⟨Nat.le_trans h.1 l, h.2⟩
theorem tl_add (x y : Str) : (x ++ y).cps.toList = x.cps.toList ++ y.cps.toList := TL.tl_append x y
theorem len_add (x y : Str) : (x ++ y).length = x.length + y.length := by
  rw [← str_len, ← str_len, ← str_len, tl_add, List.length_append]
theorem Asc.add {n m : Nat} {x y : Str} (h : Asc n x) (k : Asc m y) : Asc (n + m) (x ++ y) := by
  refine ⟨by rw [len_add]; exact Nat.add_le_add h.1 k.1, fun c hc => ?_⟩
  rw [tl_add] at hc
  exact (List.mem_append.mp hc).elim (h.2 c) (k.2 c)
theorem Asc.cut {n : Nat} {x : Str} (h : Asc n x) (lo hi : Option Int) : Asc n (cutS x lo hi) := by
  refine ⟨Nat.le_trans (cutS_length x lo hi) h.1, fun c hc => h.2 c ?_⟩
  have hc' : c ∈ (x.cps.toList.drop (HT.sIx x.length 0 lo)).take (HT.sIx x.length x.length hi - HT.sIx x.length 0 lo) := hc
  exact List.mem_of_mem_drop (List.mem_of_mem_take hc')
theorem tl_join0 (ys : List Str) : (Txt.join ("" : Str) ys).cps.toList = (ys.map fun y => y.cps.toList).flatten := by
  have e : (Txt.join ("" : Str) ys).cps.toList = TL.joinL (TL.tl ("" : Str)) (ys.map TL.tl) := (congrArg TL.tl (TL.join_eq ("" : Str) ys)).trans (TL.tl_join ("" : Str) ys)
  rw [e]
  have e0 : TL.tl ("" : Str) = [] := by decide +kernel
  rw [e0]
  have g : ∀ L : List (List Nat), TL.joinL [] L = L.flatten := by
    intro L
    induction L with
    | nil => rfl
    | cons p L ih =>
      cases L with
      | nil => simp [TL.joinL]
      | cons q r =>
        show p ++ ([] ++ TL.joinL [] (q :: r)) = _
        rw [ih]
        simp
  exact g _
theorem Asc.join0 {n : Nat} {ys : List Str} (h : ∀ y ∈ ys, Asc 1 y) (hl : ys.length ≤ n) : Asc n (Txt.join ("" : Str) ys) := by
  refine ⟨?_, fun c hc => ?_⟩
  · rw [← str_len, tl_join0, List.length_flatten, List.map_map]
    refine Nat.le_trans ?_ hl
    clear hl
    induction ys with
    | nil => exact Nat.le_refl _
    | cons y ys ih =>
      rw [List.map_cons, List.sum_cons, List.length_cons]
      have a := (h y (List.mem_cons_self ..)).1
      rw [← str_len] at a
      have b := ih fun z hz => h z (List.mem_cons_of_mem _ hz)
      show y.cps.toList.length + _ ≤ _
      omega
  · rw [tl_join0] at hc
    obtain ⟨l, hl1, hl2⟩ := List.mem_flatten.mp hc
    obtain ⟨y, hy, rfl⟩ := List.mem_map.mp hl1
    exact (h y hy).2 c hl2
theorem tl_numT (n : Nat) : (Str.ofString (toString ((n : Nat) : Int))).cps.toList = TL.numL n := TL.tl_num n
/-- a written text -/
theorem Asc.lit {n : Nat} {z : Str} (h : (decide (z.length ≤ n) && z.cps.toList.all (· < 128)) = true) : Asc n z := by
  rw [Bool.and_eq_true, decide_eq_true_eq, List.all_eq_true] at h
  exact ⟨h.1, fun c hc => of_decide_eq_true (h.2 c hc)⟩
theorem Asc.at {n i : Nat} {z : Str} (h : Asc n z) (hi : i < z.length) : ∃ c, atI z.cps.toList (i : Int) = some c ∧ c < 128 := by
  rw [← str_len] at hi
  exact ⟨z.cps.toList[i], atI_nat (List.getElem?_eq_getElem hi), h.2 _ (List.getElem_mem hi)⟩
theorem log_lt {i : Int} {k : Nat} (h : i.natAbs < 2 ^ k) (hk : 0 < k) : i.natAbs.log2 < k := by
  by_cases z : i.natAbs = 0
  · rw [z]
    simpa using hk
  · exact (Nat.log2_lt z).mpr h
theorem rc_strI64 {c : Ctx} {S : Sto} {F : D → Sto → Prop} {i : Int} (h : i.natAbs < 2 ^ 64) (q : F (.str (Str.ofString (toString i))) S) : RC c rStrInt [.int i] S F := rc_strI (Nat.lt_trans (log_lt h (by decide)) (by decide)) q
end VS
namespace VS
open PySem L2 C8 PySem.Spec PyProof.Rows
/-! ### enumerate over a text -/
end VS
namespace VS
open PySem L2 C8 PySem.Spec PyProof.Rows PySem.W
/-! ### list(text) -/
def rListS : CR1 := fun xs H Q => ∃ x : Str, xs = [.str x] ∧ x.length ≤ sizeLine ∧ ∀ l, H l = none → Q (.ref l) (upd H l (.lst (x.cps.toList.map fun n => V.str ⟨#[n]⟩)))
theorem repL_signs {K : PySem.W.Frag} {H : Hp} {T : Sto} : ∀ L : List Nat, RepL K H T (L.map fun n => V.str ⟨#[n]⟩) (L.map fun n => D.str ⟨#[n]⟩)
  | [] => .nil
  | _ :: L => .cons (.str _) (repL_signs L)
section
variable {c : Ctx} {S : Sto} {F : D → Sto → Prop}
theorem rc_listS {x : Str} (hz : x.length ≤ sizeLine) (q : F (.lst (signsD x)) S) : RC c rListS [.str x] S F := fun T us H cl r Q k => by
  cases r with
  | cons h1 t =>
    cases t
    cases h1
    refine ⟨x, rfl, hz, fun l hl => ?_⟩
    have hx : Rep c.K (upd H l (.lst (x.cps.toList.map fun n => V.str ⟨#[n]⟩))) T (.ref l) (.lst (signsD x)) := by
      refine .lst (cl.free hl) upd_same ?_
      exact repL_signs _
    exact k _ _ S T _ (mv_new hl) (cl.new hl) hx q
end
end VS
namespace VS
open PySem L2 C8 PySem.Spec PyProof.Rows
def keyD : Key → D
  | .inl i => .int i
  | .inr x => .str x
theorem keyD_V {K : PySem.W.Frag} {H : Hp} {T : Sto} {k : Key} {v : V} (r : Rep K H T v (keyD k)) : v = kV k := by
  cases k with
  | inl i => cases r; rfl
  | inr x => cases r; rfl
theorem putK_fresh {kvs : List (Key × V)} {k : Key} {v : V} (h : k ∉ kvs.map Prod.fst) : putK kvs k v = kvs ++ [(k, v)] := by
  unfold putK
  rw [if_neg]
  intro z
  rw [List.any_eq_true] at z
  obtain ⟨p, hp, e⟩ := z
  exact h (List.mem_map.mpr ⟨p, hp, of_decide_eq_true e⟩)
theorem mergeK_new : ∀ {more kvs : List (Key × V)}, (kvs.map Prod.fst ++ more.map Prod.fst).Nodup → mergeK kvs more = kvs ++ more
  | [], kvs, _ => (List.append_nil kvs).symm
  | p :: more, kvs, h => by
    show mergeK (putK kvs p.1 p.2) more = _
    have h1 : p.1 ∉ kvs.map Prod.fst := fun z => by
      rw [List.map_cons, List.nodup_append] at h
      exact h.2.2 _ z _ (List.mem_cons_self ..) rfl
    rw [putK_fresh h1, mergeK_new, List.append_assoc]
    · rfl
    · rw [List.map_append, List.append_assoc]
      exact h
theorem repK_keys {K : PySem.W.Frag} {H : Hp} {T : Sto} : ∀ {vs : List (Key × V)} {ds : List (Key × D)}, RepK K H T vs ds → vs.map Prod.fst = ds.map Prod.fst
  | _, _, .nil => rfl
  | _, _, .cons _ t => by rw [List.map_cons, List.map_cons, repK_keys t]
def VPs (c : Ctx) (trs : List (TE × TE)) (ρ : Rho) (S : Sto) (F : List (Key × D) → Sto → Prop) : Prop := ∀ T σ H, In c σ H ρ S T → ∀ Q : List (V × V) → Hp → Prop,
  (∀ kvs es S' T' H', Mv T H T' H' → Cells c.K H' S' T' → RepK c.K H' T' kvs es → F es S' → Q (kvs.map fun kv => (kV kv.1, kv.2)) H') → tPairs trs σ H Q
section
variable {c : Ctx} {ρ : Rho} {S : Sto} {F : D → Sto → Prop} {d : D}
theorem vps_nil {G : List (Key × D) → Sto → Prop} (q : G [] S) : VPs c [] ρ S G := fun T σ H I Q k => k [] [] S T H Mv.refl I.cells .nil q
theorem vps_cons {tk tv : TE} {trs : List (TE × TE)} {G : List (Key × D) → Sto → Prop} (h : VE c tk ρ S fun x S1 => ∃ key, x = keyD key ∧ VE c tv ρ S1 fun y S2 => VPs c trs ρ S2 fun es S3 => G ((key, y) :: es) S3) : VPs c ((tk, tv) :: trs) ρ S G := fun T σ H I Q k =>
  h T σ H I _ fun vx x S1 T1 H1 m1 c1 r1 ⟨key, e, h1⟩ => h1 T1 σ H1 (I.mv m1 c1) _ fun vy y S2 T2 H2 m2 c2 r2 h2 => h2 T2 σ H2 (I.mv (m1.trans m2) c2) _ fun kvs es S3 T3 H3 m3 c3 r3 q => by
    subst e
    cases keyD_V r1
    exact k ((key, vy) :: kvs) ((key, y) :: es) S3 T3 H3 (m1.trans (m2.trans m3)) c3 (.cons (r2.mv m3) r3) q
/-- {k: v, ..}, by value -/
theorem ve_disp {trs : List (TE × TE)} (h : VPs c trs ρ S fun es S1 => es.length ≤ 15 ∧ (es.map Prod.fst).Nodup ∧ F (.dK es) S1) : VE c (tDisp trs) ρ S F := fun T σ H I Q k => fun p hp =>
  h (put T p .hid) σ (upd H p (.dK [])) (I.mv (mv_newc hp) (I.cells.newh hp)) _ fun kvs es S' T' H' m cl r ⟨h1, h2, q⟩ => by
    obtain ⟨hx, s⟩ := m.hid p _ put_same upd_same
    have hl : kvs.length = es.length := by
      have e := congrArg List.length (repK_keys r)
      simpa using e
    refine ⟨hx, kvs, rfl, by rw [hl]; exact h1, ?_⟩
    have em : mergeK [] kvs = kvs := by
      have e := mergeK_new (kvs := []) (more := kvs) (by rw [repK_keys r]; exact h2)
      exact e
    rw [em]
    have mm : Mv T H T' (upd H' p (.dK kvs)) := ((mv_newc (d := .hid) hp).trans m).hidw hp
    refine k _ (.dK es) S' (del T' p) _ (mm.unhid hp) ((cl.hidw s).unhid s) (.dK del_same (.inl upd_same) ((r.mk (mk_hid s)).mk (mk_show s))) q
end
end VS
namespace VS
open PySem L2 C8 PySem.Spec PyProof.Rows
/-! ### how long a shown thing is -/
structure Sh (d : D) (n k : Nat) : Prop where
  p : isP d = true
  s : (pd d).showable = true
  l : (pd d).shown.length ≤ n
  d : (pd d).depth ≤ k
structure ShL (xs : List D) (n k : Nat) : Prop where
  p : isPL xs = true
  s : PyData.showableAll (pdL xs) = true
  l : piled (PyData.shownAll (pdL xs)) ≤ n
  d : PyData.depthAll (pdL xs) ≤ k
theorem Sh.non : Sh .non 4 0 := ⟨rfl, rfl, (by decide +kernel), Nat.le_refl _⟩
theorem Sh.bl (b : Bool) : Sh (.bl b) 5 0 := ⟨rfl, rfl, (by cases b <;> decide +kernel), Nat.le_refl _⟩
theorem Sh.str {n : Nat} {z : Str} (h : Asc n z) : Sh (.str z) (10 * n + 2) 0 := ⟨rfl, rfl, (by
  have q := StrLaws.reprText_len z fun c hc => Nat.lt_of_lt_of_le (h.2 c hc) (by decide)
  have := h.1
  show (reprText z).length ≤ _
  omega), Nat.le_refl _⟩
theorem Sh.int {i : Int} {k : Nat} (h : i.natAbs < 2 ^ k) (hk : 0 < k) (hk2 : k ≤ 1920) : Sh (.int i) (k + 2) 0 := ⟨rfl, (by
  show decide (i.natAbs.log2 < 1920) = true
  exact decide_eq_true (Nat.lt_of_lt_of_le (log_lt h hk) hk2)), (by
  show (Str.ofString (toString i)).length ≤ k + 2
  have up : ∀ m : Nat, m < 2 ^ k → (TL.numL m).length ≤ k := fun m hm => TL.numL_len hk (Nat.lt_of_lt_of_le hm (Nat.pow_le_pow_left (by decide) k))
  cases i with
  | ofNat m =>
    rw [← str_len]
    have e : (Str.ofString (toString (Int.ofNat m))).cps.toList = TL.numL m := tl_numT m
    rw [e]
    have := up m h
    omega
  | negSucc m =>
    have e : toString (Int.negSucc m) = "-" ++ toString (m + 1) := rfl
    rw [e, ← str_len]
    have e2 : (Str.ofString ("-" ++ toString (m + 1))).cps.toList = 45 :: TL.numL (m + 1) := by
      have a : (Str.ofString ("-" ++ toString (m + 1))).cps.toList = ("-" ++ toString (m + 1)).toList.map Char.toNat := TL.tl_ofString _
      have b : TL.numL (m + 1) = (toString (m + 1)).toList.map Char.toNat := (tl_numT (m + 1)).symm.trans (TL.tl_ofString _)
      rw [a, b, String.toList_append, List.map_append]
      rfl
    rw [e2, List.length_cons]
    have := up (m + 1) h
    omega), Nat.le_refl _⟩
theorem ShL.nil : ShL [] 0 0 := ⟨rfl, rfl, Nat.le_refl _, Nat.le_refl _⟩
theorem ShL.cons {d : D} {ds : List D} {a b i j : Nat} (h : Sh d a i) (t : ShL ds b j) : ShL (d :: ds) (a + 2 + b) (max i j) := ⟨by
  show (isP d && isPL ds) = true
  rw [h.p, t.p]; rfl, by
  show ((pd d).showable && PyData.showableAll (pdL ds)) = true
  rw [h.s, t.s]; rfl, by
  show ((pd d).shown.length + 2) + piled (PyData.shownAll (pdL ds)) ≤ _
  have := h.l
  have := t.l
  omega, by
  show max (pd d).depth (PyData.depthAll (pdL ds)) ≤ _
  have := h.d
  have := t.d
  omega⟩
theorem Sh.mono {d : D} {n m k j : Nat} (h : Sh d n k) (a : n ≤ m) (b : k ≤ j) : Sh d m j := ⟨h.p, h.s, Nat.le_trans h.l a, Nat.le_trans h.d b⟩
theorem ShL.mono {d : List D} {n m k j : Nat} (h : ShL d n k) (a : n ≤ m) (b : k ≤ j) : ShL d m j := ⟨h.p, h.s, Nat.le_trans h.l a, Nat.le_trans h.d b⟩
theorem lit1 : ("[" : Str).length = 1 ∧ ("]" : Str).length = 1 ∧ ("(" : Str).length = 1 ∧ (")" : Str).length = 1 ∧ (",)" : Str).length = 2 ∧ ("{" : Str).length = 1 ∧ ("}" : Str).length = 1 ∧ (": " : Str).length = 2 := by decide +kernel
theorem listText_len : ∀ ts : List Str, (listText ts).length ≤ piled ts + 2
  | [] => by decide +kernel
  | t :: r => by
    have h := textFrom_length_pos r 1 (("[" : Str) ++ (if (0 : Nat) > 0 then ", " else "" : String) ++ t) (Nat.succ_pos 0)
    have e : ((("[" : Str) ++ (if (0 : Nat) > 0 then ", " else "" : String) ++ t)).length = 1 + t.length := by
      rw [len_add, len_add]; rfl
    have hX : (listText (t :: r)).length = (textFrom 0 "[" (t :: r)).length + 1 := by
      show (textFrom 0 "[" (t :: r) ++ "]").length = _
      rw [len_add]; rfl
    have hY : (textFrom 0 "[" (t :: r)).length = (textFrom 1 (("[" : Str) ++ (if (0 : Nat) > 0 then ", " else "" : String) ++ t) r).length := rfl
    rw [hX, hY, h, e, piled_cons]; omega
theorem join_len : ∀ ts : List Str, (Str.join ", " ts).length ≤ piled ts
  | [] => by decide +kernel
  | t :: r => by
    have := join_length_add (t :: r) (by simp)
    omega
theorem Sh.lst {xs : List D} {n k : Nat} (h : ShL xs n k) : Sh (.lst xs) (n + 2) (k + 1) := ⟨h.p, h.s, by
  show (listText (PyData.shownAll (pdL xs))).length ≤ _
  have := listText_len (PyData.shownAll (pdL xs))
  have := h.l
  omega, Nat.succ_le_succ h.d⟩
theorem Sh.tup {xs : List D} {n k : Nat} (h : ShL xs n k) : Sh (.tup xs) (n + 3) (k + 1) := ⟨h.p, h.s, by
  show (tupleText (PyData.shownAll (pdL xs))).length ≤ _
  have := join_len (PyData.shownAll (pdL xs))
  have := h.l
  have e := lit1
  unfold tupleText
  rw [len_add, len_add]
  split <;> omega, Nat.succ_le_succ h.d⟩
theorem rc_reprS {c : Ctx} {S : Sto} {F : D → Sto → Prop} {x d : D} {n k : Nat} (h : Vw S x d) (sh : Sh d n k) (hn : n ≤ 1000000) (hk : k ≤ 50) (q : F (.str (pd d).shown) S) : RC c (rRepr c.K) [x] S F :=
  rc_repr h sh.p sh.s (Nat.le_trans sh.l (Nat.le_trans hn szl)) (Nat.le_trans sh.d hk) q
end VS
namespace VS
open PySem L2 C8 PySem.Spec PyProof.Rows
theorem rngD_at {i : Nat} {d : D} {j : Int} (h : (rngD 0 j.toNat)[i]? = some d) : d = .int (i : Nat) ∧ (i : Int) < j := by
  have hi : i < j.toNat := by
    have := (List.getElem?_eq_some_iff.mp h).1
    unfold rngD at this
    simpa using this
  unfold rngD at h
  rw [List.getElem?_map, List.getElem?_range hi] at h
  cases h
  refine ⟨?_, by omega⟩
  show D.int (0 + (i : Int)) = D.int (i : Int)
  rw [Int.zero_add]
theorem mmB {a b l : Int} (h0 : 0 ≤ a) (h : a ≤ b) : 0 ≤ (if (if l < b then l else b) > a then (if l < b then l else b) else a) ∧ (if (if l < b then l else b) > a then (if l < b then l else b) else a) ≤ b := by
  split <;> (try split) <;> omega
/-- for k in range(max(a, min(b, len(script)))) : the cells of a law -/
theorem vi_cells {c : Ctx} {ρ : Rho} {S : Sto} {W : List D → Sto → Prop} {ns : List Int} {a b : Int} {i : Nat} (h0 : 0 ≤ a) (hab : a ≤ b) (hb : b < 1000) (hv : ρ[i]? = some (some (.rol (ns.map .int)))) (h : ∀ j : Int, 0 ≤ j → j ≤ b → W (rngD 0 j.toNat) S) :
    VI c (iRng1 (tCons (tCB rMax2 (tCons (tC (V.int a)) (tCons (tCB rMin2 (tCons (tC (V.int b)) (tCons (tCB (rLen c.K) (tCons (tVar i) tNil)) tNil))) tNil))) tNil)) ρ S W := by
  refine vi_rng1 (va_cons (ve_cb (va_cons (ve_int (va_cons (ve_cb (va_cons (ve_int (va_cons (ve_cb (va_cons (ve_var hv (va_nil (rc_lenQ (.l .r) (va_nil (rc_min2 (va_nil (rc_max2 (va_nil ?_)))))))))))))))))))
  have m := mmB (a := a) (b := b) (l := (((ns.map D.int).length : Nat) : Int)) h0 hab
  generalize (if (if (((ns.map D.int).length : Nat) : Int) < b then (((ns.map D.int).length : Nat) : Int) else b) > a then (if (((ns.map D.int).length : Nat) : Int) < b then (((ns.map D.int).length : Nat) : Int) else b) else a) = j at m ⊢
  exact ⟨j, rfl, by omega, h j m.1 m.2⟩
theorem ex_keyS {z : Str} {G : Key → Prop} (h : G (.inr z)) : ∃ k, D.str z = keyD k ∧ G k := ⟨.inr z, rfl, h⟩
theorem ex_keyI {z : Int} {G : Key → Prop} (h : G (.inl z)) : ∃ k, D.int z = keyD k ∧ G k := ⟨.inl z, rfl, h⟩
end VS
namespace VS
open PySem L2 C8 PySem.Spec PyProof.Rows
/-! ### words -/
def sp (w L : List Nat) : List (List Nat) := TL.spl [32] 0 w L
def W (z : Str) : List Str := Txt.split z " "
theorem joinL_mem (S : List Nat) (c : Nat) : ∀ ps : List (List Nat), c ∈ TL.joinL S ps → c ∈ S ∨ ∃ p ∈ ps, c ∈ p
  | [], h => by cases h
  | [p], h => .inr ⟨p, List.mem_cons_self .., h⟩
  | p :: q :: r, h => by
    have h' : c ∈ p ++ (S ++ TL.joinL S (q :: r)) := h
    rcases List.mem_append.mp h' with h1 | h1
    · exact .inr ⟨p, List.mem_cons_self .., h1⟩
    · rcases List.mem_append.mp h1 with h2 | h2
      · exact .inl h2
      · rcases joinL_mem S c (q :: r) h2 with h3 | ⟨p', h3, h4⟩
        · exact .inl h3
        · exact .inr ⟨p', List.mem_cons_of_mem _ h3, h4⟩
theorem joinL_len' (S : List Nat) {m : Nat} : ∀ ps : List (List Nat), (∀ p ∈ ps, p.length ≤ m) → (TL.joinL S ps).length ≤ ps.length * (m + S.length)
  | [], _ => by simp [TL.joinL]
  | [p], h => by
    have := h p (List.mem_cons_self ..)
    show p.length ≤ 1 * _
    omega
  | p :: q :: r, h => by
    have ih := joinL_len' S (q :: r) fun x hx => h x (List.mem_cons_of_mem _ hx)
    have := h p (List.mem_cons_self ..)
    show (p ++ (S ++ TL.joinL S (q :: r))).length ≤ _
    rw [List.length_append, List.length_append]
    have e : (p :: q :: r).length * (m + S.length) = (q :: r).length * (m + S.length) + (m + S.length) := by
      rw [List.length_cons, Nat.succ_mul]
    omega
theorem Asc.join {n m k : Nat} {x : Str} {ys : List Str} (hx : Asc k x) (h : ∀ y ∈ ys, Asc m y) (hl : ys.length ≤ n) : Asc (n * (m + k)) (Txt.join x ys) := by
  have e : (Txt.join x ys).cps.toList = TL.joinL (TL.tl x) (ys.map TL.tl) := (congrArg TL.tl (TL.join_eq x ys)).trans (TL.tl_join x ys)
  refine ⟨?_, fun c hc => ?_⟩
  · rw [← str_len, e]
    have q := joinL_len' (TL.tl x) (m := m) (ys.map TL.tl) fun p hp => by
      obtain ⟨y, hy, rfl⟩ := List.mem_map.mp hp
      exact Nat.le_trans (Nat.le_of_eq (str_len y)) (h y hy).1
    refine Nat.le_trans q ?_
    rw [List.length_map]
    have hk : (TL.tl x).length ≤ k := Nat.le_trans (Nat.le_of_eq (str_len x)) hx.1
    exact Nat.mul_le_mul hl (by omega)
  · rw [e] at hc
    rcases joinL_mem _ _ _ hc with q | ⟨p, hp, q⟩
    · exact hx.2 c q
    · obtain ⟨y, hy, rfl⟩ := List.mem_map.mp hp
      exact (h y hy).2 c q
/-! ### text * int, list * int, extend, split by value -/
section
variable {c : Ctx} {ρ : Rho} {S : Sto} {F : D → Sto → Prop} {d : D}
theorem RepL.rep {K : PySem.W.Frag} {H : Hp} {T : Sto} {xs : List V} {ds : List D} (r : RepL K H T xs ds) : ∀ n : Nat, RepL K H T (List.replicate n xs).flatten (List.replicate n ds).flatten
  | 0 => .nil
  | n + 1 => by
    rw [List.replicate_succ, List.replicate_succ, List.flatten_cons, List.flatten_cons]
    exact r.append (RepL.rep r n)
end
/-- all that was there is there -/
def Ext (S S' : Sto) : Prop := ∀ q d, S q = some d → S' q = some d
theorem Ext.refl {S : Sto} : Ext S S := fun _ _ h => h
theorem Ext.trans {S S' S'' : Sto} (a : Ext S S') (b : Ext S' S'') : Ext S S'' := fun q d h => b q d (a q d h)
theorem Ext.put {S : Sto} {p : Addr} {d : D} (h : S p = none) : Ext S (put S p d) := fun q e hq => by
  rw [put_ne]
  · exact hq
  · intro z; subst z; rw [h] at hq; cases hq
theorem Ext.wr {S S' : Sto} {p : Addr} {d : D} (h : S p = none) (x : Ext S S') : Ext S (VS.put S' p d) := fun q e hq => by
  rw [put_ne]
  · exact x q e hq
  · intro z; subst z; rw [h] at hq; cases hq
theorem atI_mem {α : Type} {xs : List α} {i : Int} (h0 : 0 ≤ i) (h1 : i < xs.length) : ∃ x ∈ xs, atI xs i = some x := by
  obtain ⟨k, rfl⟩ := Int.eq_ofNat_of_zero_le h0
  have hk : k < xs.length := Int.ofNat_lt.mp h1
  exact ⟨xs[k], List.getElem_mem hk, atI_nat (List.getElem?_eq_getElem hk)⟩
/-- all that was there, but for what lies at p, is there -/
def Ex1 (p : Addr) (S S' : Sto) : Prop := ∀ q d, q ≠ p → S q = some d → S' q = some d
theorem Ex1.refl {p : Addr} {S : Sto} : Ex1 p S S := fun _ _ _ h => h
theorem Ex1.trans {p : Addr} {S S' S'' : Sto} (a : Ex1 p S S') (b : Ex1 p S' S'') : Ex1 p S S'' := fun q d h e => b q d h (a q d h e)
theorem Ext.ex1 {p : Addr} {S S' : Sto} (a : Ext S S') : Ex1 p S S' := fun q d _ e => a q d e
theorem Ex1.wr {S S' : Sto} {p l : Addr} {d : D} (h : S l = none) (x : Ex1 p S S') : Ex1 p S (VS.put S' l d) := fun q e n hq => by
  rw [put_ne]
  · exact x q e n hq
  · intro z; subst z; rw [h] at hq; cases hq
/-- within a comprehension's block: K named -/
theorem kC {X : Cx} {K : PySem.W.Frag} {v : Value} {r : PySem.W.Frag → CR1} (c : CallR X v (r X.K)) (h : X.K = K := by rfl) : CallR X v (r K) := h ▸ c
theorem kI {X : Cx} {K : PySem.W.Frag} {r : PySem.W.Frag → R2} (c : IxR X (r X.K)) (h : X.K = K := by rfl) : IxR X (r K) := h ▸ c
theorem kO {X : Cx} {K : PySem.W.Frag} {f : Value → Value → Sem Value} {r : PySem.W.Frag → R2} (c : OpR X f (r X.K)) (h : X.K = K := by rfl) : OpR X f (r K) := h ▸ c
theorem ShL.uncons {d : D} {ds : List D} {n k : Nat} (h : ShL (d :: ds) n k) : ∃ a b, Sh d a k ∧ ShL ds b k ∧ a + 2 + b ≤ n := by
  have hp : (isP d && isPL ds) = true := h.p
  have hs : ((pd d).showable && PyData.showableAll (pdL ds)) = true := h.s
  have hl : ((pd d).shown.length + 2) + piled (PyData.shownAll (pdL ds)) ≤ n := h.l
  have hd : max (pd d).depth (PyData.depthAll (pdL ds)) ≤ k := h.d
  rw [Bool.and_eq_true] at hp hs
  exact ⟨_, _, ⟨hp.1, hs.1, Nat.le_refl _, by omega⟩, ⟨hp.2, hs.2, Nat.le_refl _, by omega⟩, hl⟩
theorem ShL.append : ∀ {xs ys : List D} {a b k : Nat}, ShL xs a k → ShL ys b k → ShL (xs ++ ys) (a + b) k
  | [], ys, a, b, k, _, h => h.mono (by omega) (Nat.le_refl _)
  | x :: xs, ys, a, b, k, h, h2 => by
    obtain ⟨c, e, h3, h4, h5⟩ := h.uncons
    exact ((ShL.cons h3 (ShL.append h4 h2)).mono (by omega) (by omega))
end VS
namespace VS
open PySem L2 C8 PySem.Spec PyProof.Rows
/-! ### x in a tuple of data -/
theorem asc_ok {z : Str} (h : ∀ c ∈ z.cps.toList, c < 128) : (pd (.str z)).canLay0 = true := by
  show z.cps.all (· < 0x110000) = true
  rw [← Array.all_toList]
  exact List.all_eq_true.mpr fun c hc => decide_eq_true (Nat.lt_trans (h c hc) (by decide))
section
variable {c : Ctx} {ρ : Rho} {S : Sto} {F : D → Sto → Prop}
theorem ve_dnew (q : F (.dK []) S) : VE c tDNewK ρ S F := fun T σ H I Q k => fun p hp =>
  k _ (.dK []) S T _ (mv_new hp) (I.cells.new hp) (.dK (I.cells.free hp) (.inl upd_same) .nil) q
end
end VS
namespace VS
open PySem L2 PySem.Spec PyProof.Rows
/-! ### own exception classes over any exception of the language -/
/-- what the written part's chain bm of classes (made by nid) must have -/
structure BmG (bm : List Value) (nid : String) : Prop where
  fact : ∃ B ini bmB, ExcBaseFacts B nid ini bmB ∧ bm.contains (.type B) = true
  noA : bm.contains (.type "AttributeError") = false
  noN : bm.contains (.type "NameError") = false
  obj : bm.contains (.type "object") = true
  pass : ∀ self, refuseLoop self "__setattr__" bm = pure ()
theorem BmG.ne {bm : List Value} {nid : String} (b : BmG bm nid) : bm.isEmpty = false := by
  cases bm with
  | nil => exact absurd b.obj (by decide)
  | cons _ _ => rfl
theorem BmG.up {bm : List Value} {nid : String} {c : Addr} (b : BmG bm nid) : BmG (.ref c :: bm) nid := by
  have k : ∀ X : String, (Value.ref c :: bm).contains (.type X) = bm.contains (.type X) := fun X => by rw [List.contains_cons]; rfl
  obtain ⟨B, ini, bmB, F, h⟩ := b.fact
  exact ⟨⟨B, ini, bmB, F, (k B).trans h⟩, (k _).trans b.noA, (k _).trans b.noN, (k _).trans b.obj, fun self => by rw [refuseLoop_ref]; exact b.pass self⟩
theorem bmG_VE : BmG [.type "ValueError", .type "Exception", .type "BaseException", .type "object"] "ValueError.__new__" := ⟨⟨_, _, _, F.excBase_ValueError, by decide +kernel⟩, by decide +kernel, by decide +kernel, by decide +kernel, fun self => by kernel_rfl⟩
structure OexG (K : PySem.W.Frag) (C : Addr) : Prop where
  cls : ∃ nm q N bs bm sn sub ab col dd k0 k1 k2 k3 k5 nid, K.lookup C = some (excClassObj nm q C N bs bm true sn sub ab col dd k0 k1 k2 k3 k5 nid) ∧ BmG bm nid
  sa : PySem.W.findIn K (.ref C) "__setattr__" = some (some (.builtin "object.__setattr__"))
  exC : PySem.W.subIn K (.ref C) (.type "BaseException") = some true
  tyC : PySem.W.typeIn K (.ref C) = some (.type "type")
  kC : PySem.W.keepIn K (.ref C) = true
end VS
namespace PySem
namespace VSX
open VS HandSPX Builtin PySem.Calls
section
variable {M : Model} {prog : Program} {w : World} {A : Around} {E : Value → Shared → Prop} {R : Result → Shared → Prop} {h : Heap} {g : Array GenState} {d : Drawn} {t : Nat} {os : OsState}
variable {nm q : Str} {C N : Addr} {bs bm : List Value} {hdct : Bool} {sn : List Str} {sub : List Value} {ab : Bool} {col : Option Bool} {dd : Option Addr} {k0 k1 k2 k3 k5 : Option Value} {nid : String}
theorem upC {bm : List Value} {X : String} {v : Bool} {C : Addr} (e : bm.contains (.type X) = v) : (Value.ref C :: bm).contains (.type X) = v := by rw [List.contains_cons, e]; rfl
theorem new_ownG (b : BmG bm nid) {rest : List Value} (hC : h.get? C = some (excClassObj nm q C N bs bm hdct sn sub ab col dd k0 k1 k2 k3 k5 nid))
    (hq : R (.ok (.ret (.ref (h.objs.size + 1)))) ⟨(h.push (PySem.W.kdv_tup rest)).push (excO C h.objs.size), g, d, t, os⟩) (hrest : rest.length ≤ sizeLine) :
    codeAny (model prog w) A (.builtin nid ⟨.ref C :: rest, []⟩) R ⟨h, g, d, t, os⟩ := by
  obtain ⟨B, ini, bmB, F, hB⟩ := b.fact
  have hcB := upC (C := C) hB
  have hcA := upC (C := C) b.noA
  have hcN := upC (C := C) b.noN
  have hends := F.ends
  refine codeAny_builtinAt F.entry ?_
  unfold Builtin.«BaseException.__new__»
  refine wpAt_bind ?_
  show wpAt _ _ _ (stack >>= _) _ _ _
  refine wpAt_bind (wpAt_stack fun p below => wpAt_of_wpAny ?_)
  wp_walk
  refine wpAt_of_wpAny ?_
  rw [F.owner]
  repeat (first | with_reducible refine wpAny_madeHere_exc F.canon hC ?_ | with_reducible refine wpAny_loadPart_at hC ?_ | (with_reducible refine wpAny_isSubtype_exc hC ?_; first | rw [hcB] | rw [hcA] | rw [hcN]) | wp_step)
  show R _ _
  rw [Heap.size_push]
  exact hq
theorem type_callG (b : BmG bm nid) {rest : List Value} {fI : Addr} {Q : Fin → Shared → Prop}
    (hC : h.get? C = some (excClassObj nm q C N bs bm hdct sn sub ab col dd k0 k1 k2 k3 k5 nid))
    (hi : PySem.W.Looks (model prog w) h (typeLookup (.ref C) "__init__") (some (.ref fI))) (hb : ∀ self, PySem.W.Looks (model prog w) h (bindSpecial (.ref fI) self) (.ref fI, [self])) (hrest : rest.length ≤ sizeLine)
    (hq : codeAny (model prog w) A (.call (.ref fI) ⟨.ref (h.objs.size + 1) :: rest, []⟩)
      (fun r s' => match r with | .ok (.ret v) => v = .none ∧ Q (.done (.ret (.ref (h.objs.size + 1)))) s' | .ok _ => False | .error e => E e s')
      ⟨(h.push (PySem.W.kdv_tup rest)).push (excO C h.objs.size), g, d, t, os⟩) :
    wpAny (model prog w) A (Builtin.«type.__call__» ⟨.ref C :: rest, []⟩) Q E ⟨h, g, d, t, os⟩ := by
  obtain ⟨B, ini, bmB, F, hB⟩ := b.fact
  have hcB := upC (C := C) hB
  have hcA := upC (C := C) b.noA
  have hcN := upC (C := C) b.noN
  repeat (first | with_reducible refine wpAny_loadPart_at hC ?_ | with_reducible refine wpAny_madeBy_exc hC ?_ | wp_step)
  refine codeAny_call_builtin_code (Code.quiet_builtin _ F.quiet) ?_
  have hstar := F.noStar
  simp only [checkBuiltinCall, F.newKind, F.newSplit, F.newRow]
  repeat (first | refine wpAny_loadPart_at hC ?_ | (refine wpAny_isSubtype_exc hC ?_; rw [hcB]) | refine wpAny_staticBase_exc hC ?_ | refine wpAny_madeBy_exc hC ?_ | simp only [bne_self_eq_false, Bool.false_eq_true, if_false] | wp_step)
  refine new_ownG b hC ?_ hrest
  show wpAny _ _ _ _ _ _
  have k : ∀ b o, h.get? b = some o → ((h.push (PySem.W.kdv_tup rest)).push (excO C h.objs.size)).get? b = some o := fun b o e => Heap.get?_push_of_some _ (Heap.get?_push_of_some _ e)
  have hC₁ := k _ _ hC
  have hget : ((h.push (PySem.W.kdv_tup rest)).push (excO C h.objs.size)).get? (h.objs.size + 1) = some (excO C h.objs.size) := by heap_get
  have hcC : (Value.ref C :: bm).contains (.ref C) = true := by simp
  have i1 := hi.keeps k
  have b1 := (hb (.ref (h.objs.size + 1))).keeps k
  unfold isInstance
  repeat (first | with_reducible refine wpAny_loadPart_at hget ?_ | (with_reducible refine wpAny_isSubtype_exc hC₁ ?_; rw [hcC]) | wp_step)
  show wpAny _ _ (typeLookup (.ref C) _) _ _ _
  refine i1.at ?_
  refine wpAny_holding (wpAny_bind (b1.at ?_))
  refine wpAny_bind (wpAny_call (codeAny_mono hq fun r s' z => ?_))
  rcases r with e | (v | _ | _ | _) <;> first | exact z | exact z.elim | skip
  obtain ⟨rfl, z⟩ := z
  first
    | exact wpAny_pure (wpAny_pure z)
    | (wp_walk; exact z)
theorem call_ownG (b : BmG bm nid) {rest : List Value} {fI : Addr}
    (hC : h.get? C = some (excClassObj nm q C N bs bm hdct sn sub ab col dd k0 k1 k2 k3 k5 nid))
    (hi : PySem.W.Looks (model prog w) h (typeLookup (.ref C) "__init__") (some (.ref fI))) (hb : ∀ self, PySem.W.Looks (model prog w) h (bindSpecial (.ref fI) self) (.ref fI, [self])) (hrest : rest.length ≤ sizeLine)
    (hq : codeAny (model prog w) (A.under (.builtin "type.__call__" ⟨.ref C :: rest, []⟩)) (.call (.ref fI) ⟨.ref (h.objs.size + 1) :: rest, []⟩) (PySem.W.InitBack (h.objs.size + 1) R)
      ⟨(h.push (PySem.W.kdv_tup rest)).push (excO C h.objs.size), g, d, t, os⟩) :
    codeAny (model prog w) A (.call (.ref C) ⟨rest, []⟩) R ⟨h, g, d, t, os⟩ := by
  have f1 := tc_lookup
  have f2 := tc_bind (.ref C)
  have hTy : (⟨h, g, d, t, os⟩ : Shared).TypeIs (.ref C) "type" := ⟨_, hC, rfl⟩
  refine codeAny_of_tree ?_
  show wpAny _ _ (callAny (.ref C) _) _ _ _
  repeat (any_goals (first | assumption | with_reducible refine wpAny_loadPart_at hC ?_ | wp_step))
  refine ⟨rfl, ?_⟩
  refine codeAny_call_builtin_at (Code.quiet_builtin _ (by decide +kernel)) entry_typeCall (wpAny_check_type_call_sub hC (type_callG b hC hi hb hrest ?_))
  refine codeAny_mono hq fun r s' z => ?_
  rcases r with e | (v | _ | _ | _) <;> exact z
end
section
open Builtin.ObjectAttr
variable {prog : Program} {w : World} {A : Around} {E : Value → Shared → Prop} {R : Result → Shared → Prop} {hp : Heap} {g : Array GenState} {d : Drawn} {t : Nat} {os : OsState}
theorem exc_osaG {K : W.Frag} {name : Str} {tk : Tok} {v : Value} {x C : Addr} {fv : Array Value} {cd : ClassData} {nid : String} {bm : List Value}
    (X : K.In hp) (hx : hp.get? x = some { cls := .ref C, data := .fields fv }) (hcd : W.clsIn K C = some cd) (b : BmG bm nid) (hm : cd.mro = .ref C :: bm) (hh : cd.hasDict = true) (ha : W.findIn K (.ref C) name = some none)
    (hq : ∀ h' tk' dx, (∀ b o, b ≠ x → hp.get? b = some o → h'.get? b = some o) → hp.objs.size ≤ dx → dx ≠ x → h'.get? x = some { cls := .ref C, dict := some dx, data := .fields fv } →
      h'.Ns1 dx (fun y => if y = name then some v else none) → R (.ok (.ret .none)) ⟨h', g, d, tk', os⟩) :
    codeAny (model prog w) A (.call (.builtin "object.__setattr__") ⟨[.ref x, .str name tk, v], []⟩) R ⟨hp, g, d, t, os⟩ := by
  have I : W.InstAt hp x { cls := .ref C, data := .fields fv } C none := ⟨hx, rfl, rfl, trivial⟩
  have SF := F.store_object
  have ne : cd.mro.isEmpty = false := by rw [hm]; rfl
  have hob : cd.mro.contains (.type "object") = true := by rw [hm]; exact b.up.obj
  have hps : refuseLoop (.ref x) "__setattr__" cd.mro = pure () := by rw [hm]; exact b.up.pass _
  have hxs : x ≠ hp.objs.size := Nat.ne_of_lt (Heap.lt_size hx)
  have sub : W.Looks (model prog w) hp (isInstance (.ref x) (.type "object")) true := I.type.andThen (W.looks_mroIn X (by unfold W.mroIn; rw [hcd, Option.bind_some, if_neg (by rw [ne]; decide), hob]))
  refine codeAny_call_builtin SF.slot.plain SF.entry (@W.check_slot (model prog w) _ _ ⟨hp, g, d, t, os⟩ "object.__setattr__" "object" "__setattr__" (.ref x) [.str name tk, v] [] _ SF.kind SF.split sub (SF.args (.ref x) (.str name tk) v) ?_)
  have hmr : W.Looks (model prog w) hp (mroOf (.ref C)) cd.mro := (W.looks_clsIn X hcd).andThen .now
  have L3 : W.Looks (model prog w) hp (storeTaker? none) none := .now
  have hcls : W.Looks (model prog w) hp (classData C) cd := W.looks_clsIn X hcd
  rw [W.osa_eq, refuse_eq]
  refine wpAny_bind (wpAny_bind (I.type.at (wpAny_bind (hmr.at ?_))))
  rw [hps]
  refine wpAny_pure (wpAny_bind (I.type.at (wpAny_bind ((W.looks_findIn X ha).at (wpAny_bind (L3.at ?_))))))
  show wpAny _ _ (storeInOwnDict (.ref x) (.ref C) (.str name tk) name v false) _ _ _
  obtain ⟨nm, bs, mro, ns, qn, hd, sn, sb, ab, col, del⟩ := cd
  dsimp only at hh
  subst hh
  unfold storeInOwnDict ownDictForStores
  repeat (first | with_reducible refine store_in_new ?_ ?_ | with_reducible refine wpAny_loadPart_at hx ?_ | with_reducible refine hcls.at ?_ | wp_step)
  · exact ⟨_, #[], _, (Heap.get?_update_ne _ _ _ _ hxs.symm).trans (Heap.get?_push_at rfl rfl), rfl, fun e he => absurd he (by simp), fun _ => rfl⟩
  · intro h' tk' hn' hs
    have hx₁ : (hp.push { cls := .type "dict", data := .dict #[] }).get? x = some { cls := .ref C, data := .fields fv } := Heap.get?_push_of_some _ hx
    refine hq h' tk' hp.objs.size (fun b o hb ho => ?_) (Nat.le_refl _) hxs.symm ?_ hn'
    · exact (hs.2 b (Nat.ne_of_lt (Heap.lt_size ho))).trans ((Heap.get?_update_ne _ _ _ _ hb).trans (Heap.get?_push_of_some _ ho))
    · exact (hs.2 x hxs).trans (Heap.get?_update_self _ hx₁ rfl)
end
end VSX
end PySem
namespace VS
open PySem L2 PySem.Spec PyProof.Rows PySem.VSX
theorem ost_newG {X : Cx} {pins : List (Addr × Obj)} {σ : L2.St} {H : Hp} {s : Shared} {a C : Addr} {f : Str} {y : V} {u : Value} {Q : Unit → Shared → Prop} {E : Value → Shared → Prop} {A : Around} (T : OexG X.K C) (I : Inv X pins σ H s) (e : H a = some (exo a C none)) (hno : PySem.W.findIn X.K (.ref C) f = some none) (ry : RelV y u)
    (h : ∀ dx s', H dx = none → dx ≠ a → Inv X pins σ (upd (upd H dx (exd dx [(f, y)])) a (exo a C (some dx))) s' → Q () s') : wpAny (model X.prog X.w) A (setAttr (.ref a) f u) Q E s := by
  obtain ⟨nm, q, N, bs, bm, sn, sub, ab, col, dd, k0, k1, k2, k3, k5, nid, hC, hbm⟩ := T.cls
  have hcl : PySem.W.clsIn X.K C = some { name := nm, bases := bs, mro := .ref C :: bm, ns := N, qualname := q, hasDict := true, slotNames := sn, subclasses := sub, abstract := ab, collection := col, hasDel := false } := by unfold PySem.W.clsIn; rw [hC] <;> rfl
  obtain ⟨t1, ho⟩ := exo_at I.hok e
  obtain ⟨hp, g, d, t, os⟩ := s
  refine PySem.W.set_plain I.kIn (ox := { cls := .ref C, dict := none, data := .fields #[.ref t1, .none, .none, .none, .bool false, .none] }) (od := none) ⟨ho, rfl, rfl, trivial⟩ T.sa ?_
  refine exc_osaG I.kIn ho hcl hbm rfl rfl hno (fun h' tk' dx k dn dne hx hn => ?_)
  have hnd : H dx = none := I.hok.fresh dn
  have nd : ∀ {b : Addr} {o : Obj}, hp.get? b = some o → b ≠ dx := fun {b o} q => Nat.ne_of_lt (Nat.lt_of_lt_of_le (Heap.lt_size q) dn)
  have na : ∀ {b : Addr}, H b = none → b ≠ a := fun {b} n z => by
    rw [z, e] at n
    cases n
  have Un1 : Un X.fs [] H (upd (upd H dx (exd dx [(f, y)])) a (exo a C (some dx))) hp h' := {
    keep := fun b o q n _ _ => k b o (na n) q
    slot := fun b o q n _ _ => ⟨o.slots, k b o (na n) q⟩
    free := fun b o q n _ => by rw [upd_ne (na n), upd_ne (nd q)]; exact n
    there := fun b o q _ => by
      by_cases hb : b = a
      · exact ⟨_, by rw [hb]; exact hx⟩
      · exact ⟨o, k b o hb q⟩
    tups := fun b xs q => by rw [upd_ne (at_ne e q exo_tup), upd_ne (ne_of_none q hnd)]; exact q
    frzs := fun b o v q => by rw [upd_ne (at_ne e q exo_frz), upd_ne (ne_of_none q hnd)]; exact q
    tbls := fun b ps q => ⟨#[], by rw [upd_ne (at_ne e q exo_tbl), upd_ne (ne_of_none q hnd), q]; simp⟩ }
  refine h dx _ hnd dne (I.un (t' := tk') Un1 fun b o q => ?_)
  by_cases hb : b = a
  · subst hb
    rw [upd_same] at q
    cases q
    exact exo_ok hx
  · rw [upd_ne hb] at q
    by_cases hd : b = dx
    · subst hd
      rw [upd_same] at q
      cases q
      exact exd_ok hn (relO_put (fs := []) ry fun g => True.intro)
    · rw [upd_ne hd] at q
      exact (I.hok b o q).stay (fun c v hc z => k c v (by
          rcases hc with hc | hc
          · rw [hc]
            exact hb
          · exact at_ne e hc exo_own) z)
        (fun c hc => by rw [upd_ne (at_ne e hc exo_own), upd_ne (ne_of_none hc hnd)]; exact hc) (fun c xs hc => by rw [upd_ne (at_ne e hc exo_tup), upd_ne (ne_of_none hc hnd)]; exact hc)
/-- self.f = e, the only field -/
def tOstG (K : PySem.W.Frag) (f : Str) (to te : TE) : TS := fun D σ H => te σ H fun y H1 => to σ H1 fun x H2 => ∃ a C : Addr, x = .ref a ∧ OexG K C ∧ PySem.W.findIn K (.ref C) f = some none ∧
  H2 a = some (exo a C none) ∧ ∀ dx, H2 dx = none → dx ≠ a → D.nx σ (upd (upd H2 dx (exd dx [(f, y)])) a (exo a C (some dx)))
section
variable {X : Cx} {o e : Expr} {es : List Expr} {to te : TE} {ta : TA} {f : Str} {p p' p1 p2 pos : Pos}
theorem ps_ostG (ho : PE X o to) (he : PE X e te) (hs : swapsWith e (some (.Attribute o f p')) pos.line X.env = pure false := by rfl) : PS X (.Assign [.Attribute o f p'] e pos) (tOstG X.K f to te) := by
  refine ⟨fun pins s σ H D I h => ?_⟩
  refine plainObj_wpAny_Assign_Attribute (thn (he.run pins s σ H _ I h) fun v s1 ⟨y, H1, I1, r1, q1⟩ => thn (ho.run pins s1 σ H1 _ I1 q1) fun u s2 ⟨x, H2, I2, r2, a, C, ex, T, hno, ea, q⟩ => ?_) hs
  subst ex
  obtain rfl : u = Value.ref a := r2
  exact ost_newG T I2 ea hno r1 fun dx s' n ne J => ⟨σ, _, J, q dx n ne⟩
theorem pmk_oexG {CX : CXT} {x : Str} {C fI : Addr} {k : Nat} {fd : FuncData} {ps : List Str} {sp : Sp} {ds : List Value} {dvs : List V} (T : OexG X.K C) (iC : PySem.W.findIn X.K (.ref C) "__init__" = some (some (.ref fI))) (tI : PySem.W.typeIn X.K (.ref fI) = some (.type "function"))
    (F1 : FnOk X.prog X.w X.K X.mg X.base CX k fI fd ps sp) (hr : Room (k + 1) X.A) (hb : Binds X.K fd ps ds) (hd : Vals dvs ds) (hx : Passes CX X (fun _ _ _ => False)) (hg : Gl X x) (hm : X.mg x = some (.ref C)) (ha : PA X (e :: es) ta)
    (hdb : (x == ("__debug__" : Str)) = false := by decide) (he : starEach (e :: es) X.env = (false, eval e X.env) :: starEach es X.env := by rfl) (hpl : (backTo pos (starEach es X.env)).any (·.1) = false := by rfl) :
    PMk X (.Call (.Name x p) (e :: es) [] pos) (tMkO C sp dvs ta) := by
  intro pins s σ H Q I h
  obtain ⟨nm, q, N, bs, bm, sn, sub, ab, col, dd, k0, k1, k2, k3, k5, nid, hC, hbm⟩ := T.cls
  refine wpAny_Call_Name_kw (ld_glob I hg hm ?_ hdb)
  refine PySem.W.callWith_K (h₀ := X.base) I.ok.mod.kin T.kC (thn (ha.run pos pins s σ H _ I h) fun us s1 ⟨vs, H1, I1, r1, hz, q1⟩ => ⟨I1.kIn, ?_⟩) he hpl
  show wpAny _ _ (call (.ref C) us) _ _ _
  obtain ⟨hp, g, dr, tk, os⟩ := s1
  have hsz : hp.objs.size ≤ hp.objs.size + 1 := Nat.le_succ _
  have hn : H1 (hp.objs.size + 1) = none := I1.hok.fresh hsz
  have hq := q1 (hp.objs.size + 1) hn
  have kk : ∀ b o, hp.get? b = some o → ((hp.push (PySem.W.kdv_tup us)).push (PySem.HandSPX.excO C hp.objs.size)).get? b = some o := fun b o e => Heap.get?_push_of_some _ (Heap.get?_push_of_some _ e)
  have hget : ((hp.push (PySem.W.kdv_tup us)).push (PySem.HandSPX.excO C hp.objs.size)).get? (hp.objs.size + 1) = some (PySem.HandSPX.excO C hp.objs.size) := by heap_get
  have I2 : Inv X pins σ (upd H1 (hp.objs.size + 1) (exo (hp.objs.size + 1) C none)) ⟨(hp.push (PySem.W.kdv_tup us)).push (PySem.HandSPX.excO C hp.objs.size), g, dr, tk, os⟩ :=
    I1.laid (t' := tk) (a := hp.objs.size + 1) (o := exo (hp.objs.size + 1) C none) (h' := (hp.push (PySem.W.kdv_tup us)).push (PySem.HandSPX.excO C hp.objs.size)) kk hsz (exo_ok hget)
  have r2 : Vals (V.ref (hp.objs.size + 1) :: (vs ++ dvs)) (Value.ref (hp.objs.size + 1) :: (us ++ ds)) := .cons rfl (r1.append hd)
  have hl : (Value.ref (hp.objs.size + 1) :: us ++ ds).length = ps.length := by
    have e := r2.length
    rw [F1.len _ _ _ _ hq] at e
    exact e.symm
  have hus : us.length ≤ sizeLine := by
    rw [← Paired.length r1, sizeLine_eq]
    omega
  refine wpAny_call (call_ownG hbm (I1.kIn _ _ hC) (PySem.W.looks_findIn I1.kIn iC) (fun self => PySem.W.bind_fn I1.kIn self tI) hus
    (codeAny_mono (F1.run _ X.stack _ _ ⟨Value.ref (hp.objs.size + 1) :: us, []⟩ (Value.ref (hp.objs.size + 1) :: (us ++ ds)) _ _ (fun _ _ _ => False) (hr.make C us []) (I2.env0.make C us []) (hb _ (Value.ref (hp.objs.size + 1) :: us) I2.kIn hl) r2 hq) fun r s' hq' => ?_))
  cases r with
  | error er => exact hx pins σ _ _ er s' I2 hq'
  | ok fl =>
    cases fl with
    | ret u =>
      obtain ⟨v, H2, os2, bare2, un2, hok2, rv, ev, d, fs, ea, ed, hd1, q2⟩ := hq'
      subst ev
      obtain ⟨h2, g2, d2, t2, os'⟩ := s'
      exact ⟨rv, mk_end (raises_own T.exC T.tyC) I1 hsz kk un2 hok2 os2 bare2 ea ed hd1 q2⟩
    | next => exact False.elim hq'
    | brk => exact False.elim hq'
    | cont => exact False.elim hq'
end
end VS
namespace VS
open PySem L2 PySem.Spec PyProof.Rows PySem.VSX
/-! ### an own exception of one field: its class, its making, raise -/
/-- what __init__ keeps: self.f = v -/
def spXi (C : Addr) (f : Str) : Sp := fun vs H Q _ => ∃ (a : Addr) (v : V), vs = [.ref a, v] ∧ H a = some (exo a C none) ∧ ∀ dx, H dx = none → dx ≠ a → Q .non (upd (upd H dx (exd dx [(f, v)])) a (exo a C (some dx)))
/-- the class x, at C, of exceptions with the field f -/
structure Xc (P : Program) (w : World) (K : PySem.W.Frag) (mg : Str → Option Value) (base : Heap) (x : Str) (C : Addr) (f : Str) : Prop where
  ox : OexG K C
  xf : XfC K C
  no : PySem.W.findIn K (.ref C) f = some none
  at_ : mg x = some (.ref C)
  fn : ∃ (fI : Addr) (fd : FuncData) (ps : List Str), PySem.W.findIn K (.ref C) "__init__" = some (some (.ref fI)) ∧ PySem.W.typeIn K (.ref fI) = some (.type "function") ∧ FnOk P w K mg base C8.CX0 1 fI fd ps (spXi C f) ∧ Binds K fd ps []
section
variable {P : Program} {w : World} {K : PySem.W.Frag} {mg : Str → Option Value} {base : Heap}
theorem xinit_ok {qual : Str} {st : Stmt} {C fI : Addr} {fd : FuncData} {f : Str} {N ps : List Str} (F : Fd K "__init__" qual st [] fI fd) (Sc : FnScope N ps (defScope st)) (h2 : ps.length = 2) (ox : OexG K C) (no : PySem.W.findIn K (.ref C) f = some none)
    (body : ∀ (cdv : Value) (A : Around) (outer : List Env) (s : Shared) (H : Hp) (E : XK), PSs (cxOf C8.CX0 P w K mg base N qual (defScope st) fI cdv A outer s H E) (defBody st) (tOstG K f (tVar 0) (tVar 1))) :
    FnOk P w K mg base C8.CX0 1 fI fd ps (spXi C f) :=
  FunD.ok F Sc (fun vs H Q E h => by obtain ⟨a, v, rfl, _⟩ := h; exact h2.symm) fun cdv A outer s H vs Q E _ h => by
    obtain ⟨a, v, rfl, ha, q⟩ := h
    exact ⟨_, body cdv A outer s H E, v, rfl, .ref a, rfl, a, C, rfl, ox, no, ha, fun dx hn ne => q dx hn ne⟩
end
def tRz (C : Addr) (f : Str) (te : TE) (W : L2.St → XK) : TS := fun _ σ H => tMkO C (spXi C f) [] (tCons te tNil) σ H fun cls d H' => W σ cls d H'
theorem ps_rz {X : Cx} {x : Str} {C : Addr} {f : Str} {e : Expr} {te : TE} {W : L2.St → XK} {p pos pos' : Pos} (tk : Takes X (fun cls d σ H => W σ cls d H)) (xc : Xc X.prog X.w X.K X.mg X.base x C f) (hr : Room 2 X.A) (hg : Gl X x) (he : PE X e te)
    (hc : X.calm = true := by rfl) (hdb : (x == ("__debug__" : Str)) = false := by decide) (hst : starEach [e] X.env = (false, eval e X.env) :: starEach [] X.env := by rfl) : PS X (.Raise (some (.Call (.Name x p) [e] [] pos)) none pos') (tRz C f te W) := by
  obtain ⟨fI, fd, ps, iC, tI, F1, b⟩ := xc.fn
  exact ps_raise hc tk (pmk_oexG xc.ox iC tI F1 hr b .nil C8.pass0 hg xc.at_ (pa_cons he pa_nil hst) hdb hst)
section
variable {c : Ctx} {ρ : Rho} {S : Sto} {P : Po}
theorem xd_heap {H1 : Hp} {a C dx : Addr} {f : Str} {v : V} (ha : H1 a = none) : upd (L2.del (upd (upd (upd H1 a (exo a C none)) dx (exd dx [(f, v)])) a (exo a C (some dx))) a) dx (.xd [(f, v)]) = upd H1 dx (.xd [(f, v)]) := by
  funext b
  by_cases z : b = dx
  · subst z; rw [upd_same, upd_same]
  · rw [upd_ne z, upd_ne z]
    by_cases y : b = a
    · subst y; rw [L2.del_same, ha]
    · rw [L2.del_ne y, upd_ne y, upd_ne z, upd_ne y]
theorem vx_raise {C : Addr} {f : Str} {te : TE} (h : VE c te ρ S fun x S1 => c.Y C [(f, x)] ρ S1) : VX c (tRz C f te c.E) ρ S P := fun T σ H I D b =>
  h T σ H I _ fun v x S1 T1 H1 m1 c1 r1 q => by
    refine ⟨(by decide : 1 ≤ 1000), fun a na => ⟨a, v, rfl, upd_same, fun dx hdx ne => ⟨rfl, dx, [(f, v)], upd_same, ?_, ?_, ?_⟩⟩⟩
    · rw [upd_ne ne, upd_same]
    · rw [upd_ne ne] at hdx; exact hdx
    · have hd : H1 dx = none := by rw [upd_ne ne] at hdx; exact hdx
      rw [xd_heap na]
      have m2 := m1.trans (mv_new (o := .xd [(f, v)]) hd)
      have cl := c1.new (o := .xd [(f, v)]) hd
      exact I.exc σ ρ C (some dx) [(f, x)] S1 T1 _ m2 cl (I.mv m2 cl).sl ⟨dx, [(f, v)], rfl, c1.free hd, upd_same, .cons (r1.mv (mv_new hd)) .nil⟩ q
/-! ### e.f in an except suite -/
theorem ve_xf {a C : Addr} {d : Option Addr} {f : Str} {te : TE} {F : D → Sto → Prop} (h : VE c te ρ S fun x S1 => ∃ dd fs e, x = .xcp a dd C fs ∧ d = some dd ∧ fs.lookup f = some e ∧ F e S1) : VE c (tXf a (.ref C) d C f te) ρ S F := fun T σ H I Q k =>
  h T σ H I _ fun v x S1 T1 H1 m1 c1 r1 ⟨dd, fs, e, e1, e2, hl, q⟩ => by
    subst e1
    cases r1 with
    | xcp s hx r =>
      obtain ⟨v, h1, h2⟩ := r.lookup hl
      exact ⟨rfl, rfl, dd, _, v, e2, hx, h1, k v e S1 T1 H1 m1 c1 h2 q⟩
end
/-! ### try: several clauses, with names or without; what stands behind them is never looked at -/
structure Cla where
  c : Value
  i : Option Nat
  t : Addr → Value → Option Addr → TS
def inSl (i : Option Nat) (a : Addr) (σ : L2.St) : L2.St := match i with
  | none => σ
  | some i => σ.set i (some (.ref a))
def offSl (i : Option Nat) (σ : L2.St) : L2.St := match i with
  | none => σ
  | some i => σ.set i none
def offE (i : Option Nat) (D : Ends) : Ends := { nx := fun σ H => D.nx (offSl i σ) H, rt := D.rt, bk := fun σ H => D.bk (offSl i σ) H, ct := fun σ H => D.ct (offSl i σ) H }
def wCla (K : PySem.W.Frag) (D : Ends) : List Cla → WX
  | [] => fun _ _ _ _ => False
  | k :: r => fun cls d σ H => ∃ b, PySem.W.exmOne K cls k.c = some b ∧ (b = true → ∀ a, H a = none → k.t a cls d (offE k.i D) (inSl k.i a σ) H) ∧ (b = false → wCla K D r cls d σ H)
/-- the suite of a clause, whatever the exception -/
abbrev SuR (X : Cx) (ss : List Stmt) (t : Addr → Value → Option Addr → TS) : Prop :=
  ∀ (a : Addr) (oe : Obj) (cls : Value) (d : Option Addr) (pn : List (Addr × Obj)), Zc cls d oe → (∃ vs, oe.data = .fields vs) → PSs (X.suite a ((a, oe) :: pn)) ss (t a cls d)
inductive Clas (X : Cx) : List ExceptHandler → List Cla → Prop
  | rest {hds : List ExceptHandler} : Clas X hds []
  | plain {x : Str} {c : Value} {t : Addr → Value → Option Addr → TS} {b₀ : Stmt} {ss : List Stmt} {p1 p2 : Pos} {hds : List ExceptHandler} {l : List Cla} (hc : Names X x c) (su : SuR X (b₀ :: ss) t) (r : Clas X hds l) :
      Clas X (.ExceptHandler (some (.Name x p1)) none (b₀ :: ss) p2 :: hds) (⟨c, none, t⟩ :: l)
  | named {x n : Str} {c : Value} {i : Nat} {t : Addr → Value → Option Addr → TS} {b₀ : Stmt} {ss : List Stmt} {p1 p2 : Pos} {hds : List ExceptHandler} {l : List Cla} (hc : Names X x c) (hi : X.N[i]? = some n) (hl : X.env.kindOf n = some .local) (su : SuR X (b₀ :: ss) t) (r : Clas X hds l) :
      Clas X (.ExceptHandler (some (.Name x p1)) (some n) (b₀ :: ss) p2 :: hds) (⟨c, some i, t⟩ :: l)
section
variable {X : Cx} {pins : List (Addr × Obj)} {σ : L2.St} {H : Hp} {sI s' : Shared} {B h3 : Heap} {a : Addr} {cls : Value} {d : Option Addr} {D : Ends}
theorem clause_name {x : Str} {c : Value} {s : Shared} {pn : List (Addr × Obj)} {p : Pos} {Q E : Value → Shared → Prop} (hc : Names X x c) (I : Inv (X.suite a pn) [] σ H s) (q : Q c s) : wpAny (model X.prog X.w) (X.A.mark (some (.ref a))) (eval (.Name x p) X.env) Q E s := by
  rcases hc with ⟨hg, hdb, hm | ⟨hm, hv, hn⟩⟩
  · exact ld_glob (X := X.suite a pn) I hg hm q hdb
  · exact ld_blt (X := X.suite a pn) I hg hm hv q hn hdb
theorem clauses_run (hN : X.N.Nodup) (J : Inv X pins σ H sI) (nb : ∀ b o, sI.heap.get? b = some o → b ∉ frs X.stack → B.get? b = some o) (up : sI.heap.UpToSlots h3) (os : s'.os = sI.os) (ag : AllBare s'.gens)
    (fl : HandSPX.FlyingZ B (X.env :: X.outer) a (Zc cls d) h3) (na : H a = none) (nL : a ≠ X.env.locals) (nF : a ∉ X.fs) {hds : List ExceptHandler} {l : List Cla} (hk : Clas X hds l) :
    wCla X.K D l cls d σ H → wpAny (model X.prog X.w) X.A (handleBy (.ref a) X.env hds) (SP X pins D) X.xe { s' with heap := h3 } := by
  have ok := J.ok
  have J3 : Inv X pins σ H { s' with heap := h3 } := J.landed nb fl.1 up os ag
  obtain ⟨oe, vs, he, hz, hd⟩ := fl.there
  have S3 := J3.suite he hd na nL nF
  have LT : PySem.W.Looks (model X.prog X.w) h3 (typeOf (.ref a)) cls := fun A Q E s k q => wpAny_typeOf_ref (k _ _ he) (by rw [hz.1]; exact q)
  induction hk with
  | rest => exact fun w => w.elim
  | plain hc su r ih =>
    rintro ⟨b, e, yes, no⟩
    refine wpAny_handleBy_cons (codeAny_handlers_test (clause_name hc S3 ((PySem.W.exm_one J3.kIn LT e).here ?_))) nofun
    cases b with
    | false => exact ih (no rfl)
    | true =>
      refine codeAny_handlers_suite (HandSPX.lands_againZ fl fun h4 fl4 up4 => ?_)
      have J4 : Inv X pins σ H { s' with heap := h4 } := J.landed nb fl4.1 (up.trans up4) os ag
      obtain ⟨oe4, vs4, he4, hz4, hd4⟩ := fl4.there
      refine wpAny_mono ((su a oe4 cls d (X.pn ++ pins) hz4 ⟨_, hd4⟩).run [] _ _ H _ (J4.suite he4 hd4 na nL nF) (yes rfl a na)) (fun f s6 q => ?_) fun _ _ z => z.elim
      cases f with
      | ret u => obtain ⟨v6, σ6, H6, S6, r6, q6⟩ := q; exact ⟨_, _, _, S6.unsuite ok, r6, q6⟩
      | next => obtain ⟨σ6, H6, S6, q6⟩ := q; exact ⟨_, _, S6.unsuite ok, q6⟩
      | brk => obtain ⟨σ6, H6, S6, q6⟩ := q; exact ⟨_, _, S6.unsuite ok, q6⟩
      | cont => obtain ⟨σ6, H6, S6, q6⟩ := q; exact ⟨_, _, S6.unsuite ok, q6⟩
  | @named x n c i t b₀ ss p1 p2 hds l hc hi hl su r ih =>
    rintro ⟨b, e, yes, no⟩
    refine wpAny_handleBy_cons (codeAny_handlers_test (clause_name hc S3 ((PySem.W.exm_one J3.kIn LT e).here ?_))) nofun
    cases b with
    | false => exact ih (no rfl)
    | true =>
      refine codeAny_handlers_suite_as (HandSPX.lands_againZ fl fun h4 fl4 up4 => ?_)
      have J4 : Inv X pins σ H { s' with heap := h4 } := J.landed nb fl4.1 (up.trans up4) os ag
      obtain ⟨oe4, vs4, he4, hz4, hd4⟩ := fl4.there
      have S4 := J4.suite he4 hd4 na nL nF
      refine store_ok (X := X.suite a ((a, oe4) :: (X.pn ++ pins))) (v := .ref a) S4 hN hi (.inl hl) rfl (fun s5 S5 => ?_) (.inr hl)
      refine wpAny_mono ((su a oe4 cls d (X.pn ++ pins) hz4 ⟨_, hd4⟩).run [] s5 _ H _ S5 (yes rfl a na)) (fun f s6 q => ?_) fun _ _ z => z.elim
      have fin : ∀ {σ6 : L2.St} {H6 : Hp} {R : Shared → Prop}, Inv (X.suite a ((a, oe4) :: (X.pn ++ pins))) [] σ6 H6 s6 → (∀ s7, Inv X pins (σ6.set i none) H6 s7 → R s7) →
          wpAny (model X.prog X.w) X.A (do bindName X.env n .none; unbindBehindTheSuite X.env n p2) (fun _ => R) X.xe s6 := fun S6 q => gone_ok (S6.unsuite ok) hN hi hl q
      cases f with
      | ret u => obtain ⟨v6, σ6, H6, S6, r6, q6⟩ := q; exact fin S6 fun s7 J7 => ⟨_, _, _, J7, r6, q6⟩
      | next => obtain ⟨σ6, H6, S6, q6⟩ := q; exact fin S6 fun s7 J7 => ⟨_, _, J7, q6⟩
      | brk => obtain ⟨σ6, H6, S6, q6⟩ := q; exact fin S6 fun s7 J7 => ⟨_, _, J7, q6⟩
      | cont => obtain ⟨σ6, H6, S6, q6⟩ := q; exact fin S6 fun s7 J7 => ⟨_, _, J7, q6⟩
theorem ps_tryC {body : List Stmt} {h₀ : ExceptHandler} {hds : List ExceptHandler} {l : List Cla} {tb : WX → TS} {pos : Pos} (hs : X.stack = X.env :: X.outer) (hf : X.env.frame = some X.env.locals) (hN : X.N.Nodup)
    (hb : ∀ (W : WX) (pn : List (Addr × Obj)) (xe : Value → Shared → Prop), Takes (X.tr pn xe) W → PassesOwn (model X.prog X.w) X.A X.env xe → PSs (X.tr pn xe) body (tb W)) (hh : Clas X (h₀ :: hds) l) :
    PS X (.Try body (h₀ :: hds) [] [] pos) (fun D σ H => tb (wCla X.K D l) D σ H) := by
  refine ⟨fun pins s σ H D I h => ?_⟩
  have ok := I.ok
  have hfr : X.A.frames = some (X.env :: X.outer) := ok.frames.trans (congrArg some hs)
  refine wpAny_Try_except (wpAny_mono ((hb (wCla X.K D l) (X.pn ++ pins) (fun e s₁ => wpAny (model X.prog X.w) X.A (noteFrame e X.env) (fun _ s₂ => wpAny (model X.prog X.w) X.A (setFlight e none) (fun _ s₃ =>
    wpAny (model X.prog X.w) X.A (handleBy e X.env (h₀ :: hds)) (SP X pins D) X.xe s₃) X.xe s₂) X.xe s₁) (fun u s' xx => ?_) PassesOwn.looking).run [] s σ H D (I.toTry _) h) (fun f s1 q => ?_) fun _ _ z => z)
  · obtain ⟨a, B, sI, _, σ', H', cls, d, rfl, J', nb, up, sky, na, os, ag, w⟩ := xx
    rw [show (X.tr (X.pn ++ pins) _).stack = X.env :: X.outer from hs] at sky
    refine Sky.land Zc.steady hfr hf sky fun h3 fl3 up3 => ?_
    obtain ⟨oe, vs, he, _, hd⟩ := fl3.there
    have nfr : a ∉ frs (X.env :: X.outer) := fun hm => by
      obtain ⟨_, o', e', hnf⟩ := fl3.2.2.1.mem hm
      cases he.symm.trans e'
      exact hnf _ hd
    refine clauses_run hN (J'.ofTry ok) nb (up.trans up3) os ag fl3 na (fun z => nfr (List.mem_filterMap.mpr ⟨X.env, List.mem_cons_self, by rw [hf, z]⟩)) (fun hm => ?_) hh w
    obtain ⟨e, m, q⟩ := List.mem_filterMap.mp hm
    exact nfr (List.mem_filterMap.mpr ⟨e, List.mem_cons_of_mem _ m, q⟩)
  · cases f with
    | ret u => obtain ⟨v, σ', H', J', r, q⟩ := q; exact ⟨v, σ', H', J'.ofTry ok, r, q⟩
    | next => obtain ⟨σ', H', J', q⟩ := q; exact wpAny_execs_nil ⟨σ', H', J'.ofTry ok, q⟩
    | brk => obtain ⟨σ', H', J', q⟩ := q; exact ⟨σ', H', J'.ofTry ok, q⟩
    | cont => obtain ⟨σ', H', J', q⟩ := q; exact ⟨σ', H', J'.ofTry ok, q⟩
end
/-! ### .. by value -/
def inR (i : Option Nat) (d : D) (ρ : Rho) : Rho := match i with
  | none => ρ
  | some i => ρ.set i (some d)
def offR (i : Option Nat) (ρ : Rho) : Rho := match i with
  | none => ρ
  | some i => ρ.set i none
def offP (i : Option Nat) (P : Po) : Po := ⟨fun ρ S => P.nx (offR i ρ) S, P.rt, fun ρ S => P.bk (offR i ρ) S, fun ρ S => P.ct (offR i ρ) S⟩
def HdV (c : Ctx) (P : Po) : List Cla → Addr → List (Str × D) → Rho → Sto → Prop
  | [], _, _, _, _ => False
  | k :: r, C, fs, ρ, S => ∃ b, PySem.W.exmOne c.K (.ref C) k.c = some b ∧ (b = true → ∀ a dd, VX c (k.t a (.ref C) (some dd)) (inR k.i (.xcp a dd C fs) ρ) S (offP k.i P)) ∧ (b = false → HdV c P r C fs ρ S)
theorem In.off {c : Ctx} {σ : L2.St} {H : Hp} {ρ : Rho} {S T : Sto} (I : In c σ H ρ S T) (i : Option Nat) : In c (offSl i σ) H (offR i ρ) S T := by
  cases i with
  | none => exact I
  | some i =>
    refine ⟨I.cells, fun j e q => ?_, by show (σ.set i none).length = (ρ.set i none).length; simp [I.len], I.exc⟩
    have q' : (ρ.set i none)[j]? = some (some e) := q
    by_cases z : i = j
    · subst z
      by_cases hv : i < ρ.length
      · rw [List.getElem?_set_self hv] at q'; cases q'
      · rw [List.getElem?_eq_none (by simpa using hv)] at q'; cases q'
    · rw [List.getElem?_set_ne z] at q'
      obtain ⟨u, h1, h2⟩ := I.slots j e q'
      exact ⟨u, by show (σ.set i none)[j]? = _; rw [List.getElem?_set_ne z]; exact h1, h2⟩
theorem Bh.off {c : Ctx} {P : Po} {D : Ends} {T : Sto} {H : Hp} (b : Bh c P D T H) (i : Option Nat) : Bh c (offP i P) (offE i D) T H :=
  ⟨fun _ _ S' T' H' m I q => b.nx _ _ S' T' H' m (I.off i) q, b.rt, fun _ _ S' T' H' m I q => b.bk _ _ S' T' H' m (I.off i) q, fun _ _ S' T' H' m I q => b.ct _ _ S' T' H' m (I.off i) q⟩
theorem vx_try {c : Ctx} {ρ : Rho} {S : Sto} {P : Po} {tb : WX → TS} {l : List Cla} (h : ∀ E' : L2.St → XK, VX ⟨c.K, E', fun C fs ρ' S' => HdV c P l C fs ρ' S'⟩ (tb (fun cls d σ H => E' σ cls d H)) ρ S P) :
    VX c (fun D σ H => tb (wCla c.K D l) D σ H) ρ S P := fun T σ H I Dn b => by
  have key : ∀ (l : List Cla) (σ' : L2.St) (ρ' : Rho) (C : Addr) (d : Option Addr) (fs : List (Str × D)) (S' T' : Sto) (H' : Hp), Mv T H T' H' → Cells c.K H' S' T' → Sl c.K H' T' σ' ρ' → XRep c.K H' T' d fs → HdV c P l C fs ρ' S' → wCla c.K Dn l (.ref C) d σ' H' := by
    intro l
    induction l with
    | nil => exact fun _ _ _ _ _ _ _ _ _ _ _ _ y => y.elim
    | cons k r ih =>
      rintro σ' ρ' C d fs S' T' H' m cl sl ⟨dd, fv, rfl, sd, hd, rf⟩ ⟨bb, e, yes, no⟩
      refine ⟨bb, e, fun z a na => ?_, fun z => ih σ' ρ' C _ fs S' T' H' m cl sl ⟨dd, fv, rfl, sd, hd, rf⟩ (no z)⟩
      have I2 : In c σ' H' ρ' S' T' := ⟨cl, sl.slots, sl.len, (I.mv m cl).exc⟩
      have rx : Rep c.K H' T' (.ref a) (.xcp a dd C fs) := .xcp sd hd rf
      have I3 : In c (inSl k.i a σ') H' (inR k.i (.xcp a dd C fs) ρ') S' T' := by
        cases k.i with
        | none => exact I2
        | some i => exact I2.set i rx
      exact yes z a dd T' _ H' I3 _ ((b.mv m).off k.i)
  have I' : In ⟨c.K, fun σ cls d H => wCla c.K Dn l cls d σ H, fun C fs ρ' S' => HdV c P l C fs ρ' S'⟩ σ H ρ S T := ⟨I.cells, I.slots, I.len, fun σ' ρ' C d fs S' T' H' m cl sl x y => key l σ' ρ' C d fs S' T' H' m cl sl x y⟩
  have b' : Bh ⟨c.K, fun σ cls d H => wCla c.K Dn l cls d σ H, fun C fs ρ' S' => HdV c P l C fs ρ' S'⟩ P Dn T H :=
    ⟨fun σ' ρ' S' T' H' m J q => b.nx σ' ρ' S' T' H' m ⟨J.cells, J.slots, J.len, (I.mv m J.cells).exc⟩ q, fun v d S' T' H' m cl r q => b.rt v d S' T' H' m cl r q,
     fun σ' ρ' S' T' H' m J q => b.bk σ' ρ' S' T' H' m ⟨J.cells, J.slots, J.len, (I.mv m J.cells).exc⟩ q, fun σ' ρ' S' T' H' m J q => b.ct σ' ρ' S' T' H' m ⟨J.cells, J.slots, J.len, (I.mv m J.cells).exc⟩ q⟩
  exact h (fun σ cls d H => wCla c.K Dn l cls d σ H) T σ H I' Dn b'
end VS
namespace VS
open PySem L2 C8 PySem.Spec PyProof.Rows
/-! ### sorted of whole numbers, of a list or a tuple -/
/-- the numbers rising; falling -/
def up (ns : List Int) : List Int := ns.mergeSort (fun a b => decide (a ≤ b))
def dn (ns : List Int) : List Int := (up ns).reverse
section
variable {c : Ctx} {ρ : Rho} {S : Sto} {F : D → Sto → Prop}
def RCK (c : Ctx) (r : List V → List V → Hp → VK → Prop) (ds es : List D) (S : Sto) (F : D → Sto → Prop) : Prop := ∀ T us ws H, Cells c.K H S T → RepL c.K H T us ds → RepL c.K H T ws es → ∀ Q : VK,
  (∀ v d S' T' H', Mv T H T' H' → Cells c.K H' S' T' → Rep c.K H' T' v d → F d S' → Q v H') → r us ws H Q
theorem ve_ckw {r : List V → List V → Hp → VK → Prop} {t tk : TA} (h : VA c t ρ S fun ds S1 => VA c tk ρ S1 fun es S2 => RCK c r ds es S2 F) : VE c (tCKw r t tk) ρ S F := fun T σ H I Q k =>
  h T σ H I _ fun us ds S1 T1 H1 m1 c1 r1 h1 => h1 T1 σ H1 (I.mv m1 c1) _ fun ws es S2 T2 H2 m2 c2 r2 h2 => h2 T2 us ws H2 c2 (r1.mv m2) r2 Q fun v d S3 T3 H3 m3 => k v d S3 T3 H3 (m1.trans (m2.trans m3))
/-! ### a list taken apart; zip of tuples or lists -/
/-- a tuple by value stays -/
theorem tup_stays {K : PySem.W.Frag} {T : Sto} {H : Hp} {u : V} {ds : List D} (r : Rep K H T u (.tup ds)) : ∃ a xs, u = .ref a ∧ (∀ T' H', Mv T H T' H' → SqT K H' a xs) ∧ RepL K H T xs ds := by
  cases r with
  | tup s h r => exact ⟨_, _, rfl, fun T2 H2 m => .inl (.inl (m.keep _ _ s h)), r⟩
  | tupK h r => exact ⟨_, _, rfl, fun T2 H2 m => .inr h, r⟩
end
end VS
namespace VS
open PySem L2 C8 PySem.Spec PyProof.Rows
/-! ### enumerate over a tuple -/
end VS
namespace VS
open PySem L2 C8 PySem.Spec PyProof.Rows
/-! ### own classes: what is known of a thing's class, isinstance -/
inductive OfC (K : PySem.W.Frag) (S : Sto) : D → Value → Prop
  | p {x : D} {n : String} (h : TyS S x n) : OfC K S x (.type n)
  | i {x : D} {C : Addr} {fs : List (Str × D)} (h : IsI S x C fs) (c : InsC K C) : OfC K S x (.ref C)
  | e {C : Addr} {fs : List (Str × D)} (T : XcT K C) : OfC K S (.xv C fs) (.ref C)
theorem OfC.ok {K : PySem.W.Frag} {H : Hp} {S T : Sto} {x : D} {t : Value} {u : V} (o : OfC K S x t) (cl : Cells K H S T) (r : Rep K H T u x) : TyZ K H u t := by
  cases o with
  | e T => cases r with | xv s h s2 h2 r => exact .e h h2 T
  | p h => exact .x (h.ok cl r)
  | i h c =>
    obtain ⟨a, dx, fs, rfl, ha, _⟩ := h.rd cl r
    exact .x (.base (.ins ha c.cl c.ha c.hn c.htk c.hm))
def rIsiV (K : PySem.W.Frag) : CR1 := fun xs H Q => ∃ (x : V) (tp : Addr) (cs : List V) (t : Value) (us : List Value) (b : Bool), xs = [x, .ref tp] ∧ SqT K H tp cs ∧ Paired ClsV cs us ∧ TyZ K H x t ∧ PySem.W.kitAny K t us = some b ∧ Q (.bl b) H
theorem c_isiV {X : Cx} : CallR X (.builtin "isinstance") (rIsiV X.K) := by
  intro pins s σ H xs us Q I r h
  obtain ⟨x, tp, cs, t, ws, b, rfl, hT, k, ty, e, q⟩ := h
  obtain ⟨u1, u2, rfl, r1, r2⟩ := vals2 r
  cases (show u2 = Value.ref tp from r2)
  obtain ⟨P, Z, p, hx⟩ := kit_ofZ I r1 ty
  obtain ⟨its, rv, ⟨o, h1, h2, n, h3⟩, _⟩ := I.tuple hT
  have e3 := ClsV.all k rv
  subst e3
  obtain ⟨oc, od, dt, sl⟩ := o
  simp only at h2 h3
  subst h2 h3
  exact PySem.W.kia_tup Z I.kIn p h1 e hx fun tk => ⟨.bl b, H, I.tok tk, rfl, q⟩
section
variable {c : Ctx} {ρ : Rho} {S : Sto} {F : D → Sto → Prop}
theorem rc_isiO {x : D} {t : Value} {C : Addr} {b : Bool} (o : OfC c.K S x t) (h : PySem.W.kitOne c.K t (.ref C) = some b) (q : F (.bl b) S) : RC c (rIsiZ c.K) [x, .ref C] S F := fun T us H cl r Q k => by
  cases r with
  | cons h1 r => cases r with
    | cons h2 r =>
      cases r
      cases h2
      exact ⟨_, _, _, _, b, rfl, .own C, o.ok cl h1, h, k _ _ S T H Mv.refl cl (.bl _) q⟩
/-- an own class's name -/
theorem ve_cls {C : Addr} (q : F (.ref C) S) : VE c (tC (.ref C)) ρ S F := ve_ref q
/-- isinstance by several classes -/
inductive ClsD : D → Value → Prop
  | ty (n : String) : ClsD (.ty n) (.type n)
  | own (C : Addr) : ClsD (.ref C) (.ref C)
theorem clsD_all {K : PySem.W.Frag} {H : Hp} {T : Sto} : ∀ {cs : List V} {ds : List D} {us : List Value}, Paired ClsD ds us → RepL K H T cs ds → Paired ClsV cs us
  | _, _, _, .nil, .nil => .nil
  | _, _, _, .cons c t, .cons r rt => .cons (by
    cases c with
    | ty n => cases r; exact .ty n
    | own C => cases r; exact .own C) (clsD_all t rt)
theorem rc_isiV {x : D} {t : Value} {ds : List D} {us : List Value} {b : Bool} (o : OfC c.K S x t) (p : Paired ClsD ds us) (h : PySem.W.kitAny c.K t us = some b) (q : F (.bl b) S) : RC c (rIsiV c.K) [x, .tup ds] S F := fun T vs H cl r Q k => by
  cases r with
  | cons h1 r => cases r with
    | cons h2 r =>
      cases r
      obtain ⟨a, xs, rfl, s, rr⟩ := h2.seqT
      exact ⟨_, a, xs, t, us, b, rfl, s, clsD_all p rr, o.ok cl h1, h, k _ _ S T H Mv.refl cl (.bl _) q⟩
end
/-! ### == by an own __eq__ -/
section
variable {c : Ctx} {ρ : Rho} {S : Sto} {F : D → Sto → Prop}
/-! ### a new instance by value -/
theorem VA.imp {G G' : List D → Sto → Prop} {ta : TA} (h : VA c ta ρ S G) (i : ∀ d S, G d S → G' d S) : VA c ta ρ S G' := fun T σ H I Q k => h T σ H I Q fun v d S' T' H' m cl r q => k v d S' T' H' m cl r (i _ _ q)
theorem del_put {S : Sto} {p : Addr} {d : D} (h : S p = none) : del (put S p d) p = S := by
  funext b
  by_cases z : b = p
  · subst z; rw [del_same, h]
  · rw [del_ne z, put_ne z]
theorem del_put2 {S : Sto} {p : Addr} {d e : D} (h : S p = none) : del (put (put S p d) p e) p = S := by
  rw [put_put, del_put h]
/-- C(e, ..), known by value from then on -/
theorem ve_mkV {p : Pt} {E : L2.St → XK} {Y} {t : TA} {C : Addr} {dvs : List V} {dds : List D} (x : XOk c ρ E Y) (hd : ∀ H T, RepL c.K H T dvs dds)
    (h : VA c t ρ S fun ds S1 => ∀ y, S1 y = none → p (.ref y :: (ds ++ dds)) (put S1 y (.ins C [])) (fun d S2 => d = .non ∧ ∃ l d', D.ref y = .ref l ∧ S2 l = some d' ∧ d' ≠ .hid ∧ F d' (VS.del S2 l)) Y) : VE c (tMakeE C (spOf c.K p) dvs E t) ρ S F :=
  ve_freeze (ve_mk x hd h)
end
end VS
namespace VS
open PySem L2 C8 PySem.Spec PyProof.Rows
/-! ### what is known of a method, of a maker -/
structure Mf (P : Program) (w : World) (K : PySem.W.Frag) (mg : Str → Option Value) (base : Heap) (k : Nat) (C : Addr) (m qual : Str) (st : Stmt) (dvs : List V) (ps : List Str) (p : Pt) (f : Addr) (fd : FuncData) : Prop where
  fn : FnG P w K mg base (L2.CX P w) k f fd ps (spOf K p)
  df : Fd K m qual st dvs f fd
  cl : Cls K C
  me : Meth K C m f
  b : Binds K fd ps []
structure Kf (P : Program) (w : World) (K : PySem.W.Frag) (mg : Str → Option Value) (base : Heap) (k : Nat) (x : Str) (C : Addr) (qual : Str) (st : Stmt) (dvs : List V) (ps : List Str) (p : Pt) (f : Addr) (fd : FuncData) : Prop where
  mk_ : L2.Mk K C f
  fn : FnG P w K mg base (L2.CX P w) k f fd ps (spOf K p)
  df : Fd K "__init__" qual st dvs f fd
  mg : mg x = some (.ref C)
  b : Binds K fd ps []
/-- what a call that leaves some out fills up -/
structure Bd (K : PySem.W.Frag) (fd : FuncData) (ps : List Str) (dvs : List V) where
  ds : List Value
  v : Vals dvs ds
  b : Binds K fd ps ds
theorem bdN {K : PySem.W.Frag} {x qual : Str} {st : Stmt} {dvs : List V} {f : Addr} {fd : FuncData} {ps : List Str} (F : Fd K x qual st dvs f fd) (n j : Nat) (hd : dvs ≠ []) (hn : n + (dvs.length - j) = ps.length)
    (h : ∀ (T : Addr) (kV doc pm : Value) (an : Option Addr) (cdv ct : Value) (us its : List Value), us.length = n → its.length = dvs.length →
      ∃ k, bindArgs (PySem.W.fnOf x qual (defArgs st) (defBody st) (defScope st) (.ref T) kV doc pm an cdv ct) ⟨us, []⟩ = seqItems? (.ref T) >>= k ∧ k (some its.toArray) = pure (ps.zip (us ++ its.drop j))) : Nonempty (Bd K fd ps (dvs.drop j)) := by
  obtain ⟨ds, v, b⟩ := F.binds1 n j hd hn h
  exact ⟨⟨ds, v, b⟩⟩
theorem bd_nil {K : PySem.W.Frag} {fd : FuncData} {ps : List Str} (b : Bd K fd ps []) : Binds K fd ps [] := by
  obtain ⟨ds, v, q⟩ := b
  cases v
  exact q
/-- isinstance by an own class, from what the written part says -/
theorem kit_self {K : PySem.W.Frag} {C : Addr} : PySem.W.kitOne K (.ref C) (.ref C) = some true := by
  unfold PySem.W.kitOne
  rw [if_pos (beq_self_eq_true _)]
theorem kit_own {K : PySem.W.Frag} {v : Value} {C : Addr} {b : Bool} (n : (v == Value.ref C) = false) (h1 : PySem.W.isClsIn K C = true) (h2 : PySem.W.typeIn K (.ref C) = some (.type "type")) (h3 : PySem.W.subIn K v (.ref C) = some b) : PySem.W.kitOne K v (.ref C) = some b := by
  have h1' : (PySem.W.clsIn K C).isSome = true := h1
  unfold PySem.W.kitOne
  rw [if_neg (by rw [n]; decide)]
  show (if ((PySem.W.clsIn K C).isSome && PySem.W.typeIn K (.ref C) == some (.type "type")) = true then PySem.W.subIn K v (.ref C) else none) = some b
  rw [if_pos (by rw [h1', h2]; rfl)]
  exact h3
section
variable {c : Ctx} {ρ : Rho} {S : Sto} {F : D → Sto → Prop}
/-- o.m(), o.m(e, ..) -/
theorem ve_mt0 {p : Pt} {E : L2.St → XK} {Y} {ta : TE} {t : TA} {C : Addr} {m : Str} (x : XOk c ρ E Y) (h : VE c ta ρ S fun y S1 => ∃ fs, IsI S1 y C fs ∧ fs.lookup m = none ∧ VA c t ρ S1 fun ds S2 => p (y :: ds) S2 F Y) : VE c (tMethE C m (spOf c.K p) [] E ta t) ρ S F :=
  ve_mt (dds := []) x (fun _ _ => .nil) (h.imp fun y S1 ⟨fs, a, b, g⟩ => ⟨fs, a, b, g.imp fun ds S2 q => by rw [List.append_nil]; exact q⟩)
theorem ve_mk0 {p : Pt} {E : L2.St → XK} {Y} {t : TA} {C : Addr} (x : XOk c ρ E Y) (h : VA c t ρ S fun ds S1 => ∀ y, S1 y = none → p (.ref y :: ds) (put S1 y (.ins C [])) (fun d S2 => d = .non ∧ ∃ l d', D.ref y = .ref l ∧ S2 l = some d' ∧ d' ≠ .hid ∧ F d' (VS.del S2 l)) Y) : VE c (tMakeE C (spOf c.K p) [] E t) ρ S F :=
  ve_mkV (dds := []) x (fun _ _ => .nil) (h.imp fun ds S1 g y hy => by rw [List.append_nil]; exact g y hy)
end
end VS
namespace VS
open PySem L2 C8 PySem.Spec PyProof.Rows
/-! ### a list or a tuple walked -/
def iSeqA (K : PySem.W.Frag) (tl : TE) : TI := fun σ H R => tl σ H fun x H1 => ∃ a, x = .ref a ∧ (((∃ xs, SqL K H1 a xs) ∧ R (Itl K a) H1) ∨ ((∃ xs, SqT K H1 a xs) ∧ R (Itt K a) H1))
theorem pi_seq {X : Cx} {tg l : Expr} {tl : TE} (hl : PE X l tl) : PI X tg l (iSeqA X.K tl) := by
  refine ⟨fun pins s σ H R I h => thn (hl.run pins s σ H _ I h) fun v s1 ⟨x, H1, I1, r1, a, e, q⟩ => ?_⟩
  subst e
  cases r1
  have new : ∀ b, b ∈ [s1.heap.objs.size] → FpOk X pins H1 b := fun b hb => by
    have e : b = s1.heap.objs.size := by simpa using hb
    subst e
    exact I1.fpOk (Nat.le_refl _) (I1.hok.fresh (Nat.le_refl _))
  rcases q with ⟨⟨xs, hq⟩, q⟩ | ⟨⟨xs, hq⟩, q⟩
  · obtain ⟨its, rv, p, hz⟩ := I1.list hq
    exact wpAny_pyIter_list p.isList ⟨s1.heap.objs.size, [s1.heap.objs.size], _, _, H1, rfl, I1.kept (t' := s1.toks) fun b o e => Heap.get?_push_of_some _ e, turn_list a _, ⟨_, Heap.get?_push_size _ rfl, rfl, rfl⟩, new, q⟩
  · obtain ⟨its, rv, p, hz⟩ := I1.tuple hq
    exact wpAny_pyIter_tuple (show s1.heap.IsTuple a its.toArray from p) ⟨s1.heap.objs.size, [s1.heap.objs.size], _, _, H1, rfl, I1.kept (t' := s1.toks) fun b o e => Heap.get?_push_of_some _ e, turn_tuple a _, ⟨_, Heap.get?_push_size _ rfl, rfl, rfl⟩, new, q⟩
theorem yl_tup {K : PySem.W.Frag} {T : Sto} {H : Hp} {a : Addr} {xs : List V} {ds : List D} (hq : ∀ T1 H1, Mv T H T1 H1 → SqT K H1 a xs) (r : RepL K H T xs ds) : Yl K (Itt K a) ds T H := by
  refine ⟨fun H => SqT K H a xs, YAt xs, by rw [← r.length]; exact walk_tup, hq, fun i d S2 T2 H2 H3 x e m cl y => ?_⟩
  obtain ⟨e1, e2⟩ := y
  subst e1
  obtain ⟨v, e3, r'⟩ := r.get e
  rw [e2] at e3
  cases e3
  exact ⟨Mv.refl, cl, r'.mv m⟩
/-- a list or a tuple, by value -/
inductive IsS : D → List D → Prop
  | l {x : D} {ds : List D} (h : IsW x ds) : IsS x ds
  | t {ds : List D} : IsS (.tup ds) ds
section
variable {c : Ctx} {ρ : Rho} {S : Sto} {F : D → Sto → Prop}
theorem vi_seq {te : TE} {W : List D → Sto → Prop} (h : VE c te ρ S fun x S1 => ∃ ds, IsS x ds ∧ W ds S1) : VI c (iSeqA c.K te) ρ S W := fun T σ H I R k =>
  h T σ H I _ fun vx x S1 T1 H1 m1 c1 r1 ⟨ds, hx, q⟩ => by
    cases hx with
    | l hx =>
      obtain ⟨a, xs, rfl, hq, r⟩ := hx.rd r1
      exact ⟨a, rfl, .inl ⟨⟨xs, hq _ _ Mv.refl⟩, k _ ds S1 T1 H1 m1 c1 (yl_list hq r) q⟩⟩
    | t =>
      obtain ⟨a, xs, rfl, hq, r⟩ := tup_stays r1
      exact ⟨a, rfl, .inr ⟨⟨xs, hq _ _ Mv.refl⟩, k _ ds S1 T1 H1 m1 c1 (yl_tup hq r) q⟩⟩
theorem IsS.q {S : Sto} {x : D} {ds : List D} (h : IsS x ds) : IsQ S x ds := by
  cases h with
  | l h => cases h with
    | v => exact .l .v
    | r => exact .l .r
  | t => exact .t
/-- isinstance by a built-in class, whatever is known of the thing's own class -/
theorem rc_isiP {x : D} {t : Value} {N : String} {b : Bool} (o : OfC c.K S x t) (h : PySem.W.kitOne c.K t (.type N) = some b) (q : F (.bl b) S) : RC c (rIsiZ c.K) [x, .ty N] S F := fun T us H cl r Q k => by
  cases r with
  | cons h1 r => cases r with
    | cons h2 r =>
      cases r
      cases h2
      exact ⟨_, _, _, _, b, rfl, .ty N, o.ok cl h1, h, k _ _ S T H Mv.refl cl (.bl _) q⟩
end
/-! ### a, b = e1, e2 -/
section
variable {c : Ctx} {ρ : Rho} {S : Sto}
theorem vx_par {i j : Nat} {ta : TA} {nx bk ct : Rho → Sto → Prop} {rt : D → Sto → Prop} (h : VA c ta ρ S fun ds S1 => ∃ x y, ds = [x, y] ∧ nx ((ρ.set i (some x)).set j (some y)) S1) : VX c (tPar i j ta) ρ S ⟨nx, rt, bk, ct⟩ := fun T σ H I D b =>
  h T σ H I _ fun vs ds S1 T1 H1 m1 c1 r1 ⟨x, y, e, q⟩ => by
    subst e
    cases r1 with
    | cons r t => cases t with
      | cons r' t =>
        cases t
        exact ⟨_, _, rfl, b.nx _ _ S1 T1 H1 m1 (((I.mv m1 c1).set i r).set j r') q⟩
end
/-! ### a is not b of truths -/
def rIsNotBl : R2 := fun x y H Q => ∃ a b, x = .bl a ∧ y = .bl b ∧ Q (.bl (!decide (a = b))) H
theorem op_isNotBl {X : Cx} : OpR X (compareOp .IsNot) rIsNotBl := op_isnot_bl
theorem rv_isnotBl {c : Ctx} {S : Sto} {F : D → Sto → Prop} {a b : Bool} (q : F (.bl (!decide (a = b))) S) : RV c rIsNotBl (.bl a) (.bl b) S F := fun T u w H cl r1 r2 Q k => by
  cases r1; cases r2; exact ⟨a, b, rfl, rfl, k _ _ S T H Mv.refl cl (.bl _) q⟩
/-! ### == of lists of whole numbers -/
end VS
namespace VS
open PySem L2 C8 PySem.Spec PyProof.Rows
/-! ### slices of tuples, the place of a flat thing in a list -/
section
variable {c : Ctx} {ρ : Rho} {S : Sto} {F : D → Sto → Prop}
theorem rs_tupA {ds : List D} {lo hi : Option Int} (n : ¬ (HT.sIx ds.length 0 lo = 0 ∧ HT.sIx ds.length ds.length hi = ds.length)) (q : F (.tup (cutD ds lo hi)) S) : RS c (rSlA c.K) (.tup ds) lo hi S F := fun T u H cl r Q k => by
  obtain ⟨a, xs, rfl, s, rr⟩ := r.seqT
  exact ⟨a, xs, rfl, s, fun z => absurd z (by rw [rr.length]; exact n), fun _ p hp => k _ _ S T _ (mv_new hp) (cl.new hp) (.tup (cl.free hp) upd_same ((rr.cut lo hi).mv (mv_new hp))) q⟩
end
theorem exm_own {K : PySem.W.Frag} {v : Value} {C : Addr} {b : Bool} (h1 : PySem.W.isClsIn K C = true) (h2 : PySem.W.typeIn K (.ref C) = some (.type "type")) (h3 : PySem.W.subIn K v (.ref C) = some b) (h4 : PySem.W.subIn K (.ref C) (.type "BaseException") = some true) : PySem.W.exmOne K v (.ref C) = some b := by
  have h1' : (PySem.W.clsIn K C).isSome = true := h1
  unfold PySem.W.exmOne PySem.W.kitCls
  rw [h4, if_pos (by decide)]
  show (if ((PySem.W.clsIn K C).isSome && PySem.W.typeIn K (.ref C) == some (.type "type")) = true then PySem.W.subIn K v (.ref C) else none) = some b
  rw [if_pos (by rw [h1', h2]; decide)]
  exact h3
end VS
namespace VS
open PySem L2 C8 PySem.Spec PyProof.Rows
/-! ### repr and str by an own def -/
section
variable {X : Cx} {k : Nat} {f C : Addr} {fd : FuncData} {ps : List Str} {sp : Sp} {A : Around}
/-- the callee runs, somewhere below the running body -/
theorem callG_at {pins : List (Addr × Obj)} {σ : L2.St} {H : Hp} {s : Shared} {Q : VK} {us : List Value} {vs : List V} (F : FnG X.prog X.w X.K X.mg X.base (L2.CX X.prog X.w) k f fd ps sp) (hgd : A.guards = some []) (hr : Room k A) (fr : A.frames = X.A.frames)
    (hb : Binds X.K fd ps []) (I : Inv X pins σ H s) (r : Vals vs us) (h : sp vs H Q (fun _ _ _ => False)) : wpAny (model X.prog X.w) A (call (.ref f) us) (EP X pins σ Q) X.xe s := by
  have e0 : Env0 X.prog X.w X.K X.mg X.base A X.stack s H := by
    have e := I.env0
    exact ⟨by rw [fr]; exact e.frames, e.mod, e.bs, e.bsz, e.funs, e.frf, e.hok, e.bare⟩
  have hl := F.len _ _ _ _ h
  have bd := bindsAt (dvs := []) (ds := []) (us := us) (vs := vs) hb .nil I.kIn r (by rw [List.append_nil]; exact hl)
  rw [List.append_nil] at bd
  refine wpAny_call (codeAny_mono (F.run A hgd X.stack s H ⟨us, []⟩ us vs Q (fun _ _ _ => False) hr e0 bd r h) fun rr s' q => ?_)
  have z := call_end (E := noE) pass0 I q
  cases rr with
  | error e => exact z
  | ok fl => cases fl <;> exact z
def rReprB (K : PySem.W.Frag) (C : Addr) (sp : Sp) : CR1 := fun xs H Q => rRepr K xs H Q ∨ ∃ a dx fs, xs = [.ref a] ∧ H a = some (.ins C dx fs) ∧ sp [.ref a] H (fun v H' => ∃ z, v = .str z ∧ Q (.str z) H') (fun _ _ _ => False)
theorem c_reprB (F : FnG X.prog X.w X.K X.mg X.base (L2.CX X.prog X.w) k f fd ps sp) (hgd : X.A.guards = some []) (hr : Room (k + 1) X.A) (hs : PySem.W.findIn X.K (.ref C) "__repr__" = some (some (.ref f))) (hf : PySem.W.isFn X.K (.ref f) = true) (hb : Binds X.K fd ps []) (hsys : SysOk X.base) :
    CallR X (.builtin "repr") (rReprB X.K C sp) := by
  intro pins s σ H xs us Q I r h
  rcases h with h | ⟨a, dx, fs, rfl, ha, hp⟩
  · exact c_repr hgd hr hsys pins s σ H xs us Q I r h
  · obtain ⟨u, rfl, rv⟩ := vals1 r
    cases (show u = Value.ref a from rv)
    obtain ⟨mA, J, _⟩ := ins_get I.hok ha
    obtain ⟨od, J, _⟩ := J.look
    obtain ⟨m, hF⟩ := I.fr
    refine PySem.W.repr_K hr.in1.units0 hF I.ok.mod.kin J hs hf ?_
    refine wpAny_mono (callG_at (A := X.A.in1) F hgd hr.in1 rfl hb I (.cons (show RelV (.ref a) (.ref a) from rfl) .nil) hp) (fun rr s' q => ?_) fun _ _ z => z
    obtain ⟨w, H', I', rw', z, ew, q'⟩ := q
    subst ew
    obtain ⟨tk, rfl⟩ := (show ∃ tk, rr = .str z tk from rw')
    exact ⟨.str z, H', I', ⟨_, rfl⟩, q'⟩
end
section
variable {c : Ctx} {ρ : Rho} {S : Sto} {F : D → Sto → Prop}
theorem rc_reprD {xs : List D} {C : Addr} {sp : Sp} (h : RC c (rRepr c.K) xs S F) : RC c (rReprB c.K C sp) xs S F := fun T us H cl r Q k => .inl (h T us H cl r Q k)
theorem rc_reprO {x : D} {C : Addr} {fs : List (Str × D)} {p : Pt} (i : IsI S x C fs) (h : p [x] S (fun d S' => ∃ z, d = .str z ∧ F (.str z) S') noY) : RC c (rReprB c.K C (spOf c.K p)) [x] S F := fun T us H cl r Q k => by
  cases r with
  | cons r1 r =>
    cases r
    obtain ⟨a, dx, fv, rfl, ha, rf⟩ := i.rd cl r1
    refine .inr ⟨a, dx, fv, rfl, ha, ⟨[x], S, T, _, noY, .cons r1 .nil, cl, h, ?_, fun _ _ _ _ _ _ _ _ _ z => z.elim⟩⟩
    rintro v d S' T' H' m cl' r' ⟨z, rfl, q⟩
    cases r'
    exact ⟨z, rfl, k _ _ S' T' H' m cl' (.str z) q⟩
end
end VS
namespace VS
open PySem L2 C8 PySem.Spec PyProof.Rows
/-! ### f-strings of texts and ints -/
def VJs (c : Ctx) (ts : List TE) (acc : Str) (ρ : Rho) (S : Sto) (F : Str → Sto → Prop) : Prop := ∀ T σ H, In c σ H ρ S T → ∀ Q : Str → Hp → Prop,
  (∀ z S' T' H', Mv T H T' H' → Cells c.K H' S' T' → F z S' → Q z H') → tJs ts acc σ H Q
section
variable {c : Ctx} {ρ : Rho} {S : Sto}
theorem vj_nil {acc : Str} {F : Str → Sto → Prop} (q : F acc S) : VJs c [] acc ρ S F := fun T σ H I Q k => k acc S T H Mv.refl I.cells q
theorem vj_cons {t : TE} {ts : List TE} {acc : Str} {F : Str → Sto → Prop} (h : VE c t ρ S fun x S1 => ∃ y, x = .str y ∧ (acc ++ y).length ≤ sizeLine ∧ VJs c ts (acc ++ y) ρ S1 F) : VJs c (t :: ts) acc ρ S F := fun T σ H I Q k =>
  h T σ H I _ fun vx x S1 T1 H1 m1 c1 r1 ⟨y, e, hl, q⟩ => by
    subst e
    cases r1
    exact ⟨y, rfl, hl, q T1 σ H1 (I.mv m1 c1) Q fun z S' T' H' m => k z S' T' H' (m1.trans m)⟩
theorem ve_fstr {ts : List TE} {F : D → Sto → Prop} (h : VJs c ts Str.empty ρ S fun z S1 => F (.str z) S1) : VE c (fun σ H Q => tJs ts Str.empty σ H fun out H1 => Q (.str out) H1) ρ S F := fun T σ H I Q k =>
  h T σ H I _ fun z S' T' H' m cl q => k _ _ S' T' H' m cl (.str z) q
theorem ve_fmtI {te : TE} {F : D → Sto → Prop} (h : VE c te ρ S fun x S1 => ∃ i : Int, x = .int i ∧ i.natAbs.log2 < 1920 ∧ F (.str (toString i)) S1) : VE c (tFmt te) ρ S F := fun T σ H I Q k =>
  h T σ H I _ fun vx x S1 T1 H1 m1 c1 r1 ⟨i, e, hl, q⟩ => by
    subst e
    cases r1
    exact .inr ⟨i, rfl, hl, k _ _ S1 T1 H1 m1 c1 (.str _) q⟩
end
end VS
namespace VS
open PySem L2 C8 PySem.Spec PyProof.Rows
/-! ### a comprehension over a list known by reference: it is hidden meanwhile -/
section
variable {c : Ctx} {ρ : Rho} {S : Sto} {F : D → Sto → Prop}
theorem lc_heartAt {wi : TI} {g : TG} {tt : TT} {te : TE} {vs : List Nat} {R : List D → Sto → Prop} {T : Sto} {σ : L2.St} {H : Hp}
    (h : ∀ Q : It → Hp → Prop, (∀ J ds S1 T1 H1, Mv T H T1 H1 → Cells c.K H1 S1 T1 → Yl c.K J ds T1 H1 → (ds.length ≤ 100000 ∧ ∃ W : Nat → List D → Sto → Prop, W 0 [] S1 ∧ (∀ (i : Nat) (d : D) acc S2, ds[i]? = some d → W i acc S2 → acc.length ≤ i → VGw c vs g d (wipeR ρ vs) S2 fun ρ3 S3 => VT c tt ρ3 S3 fun b S4 => (b = true → VE c te ρ3 S4 fun y S5 => W (i + 1) (acc ++ [y]) S5) ∧ (b = false → W (i + 1) acc S4)) ∧
      (∀ acc S2, W ds.length acc S2 → acc.length ≤ ds.length → R acc S2)) → Q J H1) → wi σ H Q) (I : In c σ H ρ S T) {Q : VK}
    (k : ∀ p xs acc S' T' H' T1 H1, Mv T H T1 H1 → Mv T1 H1 T' H' → Cells c.K H' S' T' → T' p = some .hid → H1 p = none → H' p = some (.lst xs) → RepL c.K H' T' xs acc → R acc S' → Q (.ref p) H') : tLc wi g tt te vs σ H Q :=
  h _ fun J ds S1 T1 H1 m1 c1 ⟨G, Y, w, hG, hY⟩ ⟨hl, W, h0, hs, hd⟩ => fun p hp => by
    refine lc_it w (fun i H' => ∃ S2 T2 xs acc, Mv T1 H1 T2 H' ∧ Cells c.K H' S2 T2 ∧ T2 p = some .hid ∧ H' p = some (.lst xs) ∧ RepL c.K H' T2 xs acc ∧ acc.length ≤ i ∧ W i acc S2)
      ⟨S1, put T1 p .hid, [], [], mv_newc hp, c1.newh hp, put_same, upd_same, .nil, Nat.le_refl _, h0⟩ (fun i H' _ ⟨S2, T2, _, _, m, _⟩ => hG T2 H' m) ?_ ?_
    · rintro i x H' H'' hi ⟨S2, T2, xs, acc, m, c2, s2, hx, r2, hle, hw⟩ y
      obtain ⟨d, e⟩ : ∃ d, ds[i]? = some d := ⟨ds[i], List.getElem?_eq_getElem hi⟩
      obtain ⟨m3, c3, r3⟩ := hY i d S2 T2 H' H'' x e m c2 y
      have I2 : In c σ H'' ρ S2 T2 := I.mv (m1.trans (m.trans m3)) c3
      refine hs i d acc S2 e hw hle T2 x (L2.wipe σ vs) H'' (I2.wipe vs) r3 _ fun σ3 ρ3 S3 T3 H3 ew m4 I3 q => ⟨ew.trans (wipe_wipe vs vs fun _ h => h), ?_⟩
      refine q T3 σ3 H3 I3 _ fun b S4 T4 H4 m5 c4 ⟨q1, q2⟩ => ?_
      have mm := m3.trans (m4.trans m5)
      cases b with
      | true =>
        refine iteT (q1 rfl T4 σ3 H4 (I3.mv m5 c4) _ fun v y S5 T5 H5 m6 c5 r5 q5 => ?_)
        have m7 := mm.trans m6
        obtain ⟨hx5, s5⟩ := m7.hid _ _ s2 hx
        refine ⟨xs, hx5, ?_, S5, T5, xs ++ [v], acc ++ [y], (m.trans m7).hidw hp, c5.hidw s5, s5, upd_same, ((r2.mv m7).append (.cons r5 .nil)).mk (mk_hid s5), ?_, q5⟩
        · rw [r2.length]
          exact Nat.lt_of_lt_of_le (show acc.length < 100001 by omega) (by decide)
        · rw [List.length_append, List.length_singleton]
          omega
      | false =>
        obtain ⟨hx5, s5⟩ := mm.hid _ _ s2 hx
        exact iteF ⟨S4, T4, xs, acc, m.trans mm, c4, s5, hx5, r2.mv mm, by omega, q2 rfl⟩
    · rintro H' ⟨S2, T2, xs, acc, m, c2, s2, hx, r2, hle, hw⟩
      exact k p xs acc S2 T2 H' T1 H1 m1 m c2 s2 hp hx r2 (hd acc S2 hw hle)
theorem mv_hide {T : Sto} {H : Hp} {l : Addr} {d : D} (h : T l = some d) (ne : d ≠ .hid) : Mv T H (put T l .hid) H where
  keep := fun _ _ _ h => h
  fresh := fun a s _ => by
    rw [put_ne]
    · exact s
    · intro z; subst z; rw [h] at s; cases s
  hid := fun a o s e => by
    refine ⟨e, ?_⟩
    rw [put_ne]
    · exact s
    · intro z; subst z; rw [h] at s; cases s; exact absurd rfl ne
theorem Cells.hide {K : PySem.W.Frag} {S T : Sto} {H : Hp} {l : Addr} {ds : List D} {xs : List V} (cl : Cells K H S T) (h : S l = some (.lst ds)) (hx : H l = some (.lst xs)) : Cells K H (VS.del S l) (put T l .hid) := by
  have ht := cl.at h
  refine ⟨fun a => ?_, fun a e q => ?_⟩
  · by_cases z : a = l
    · subst z; exact .inr ⟨del_same, put_same⟩
    · rw [put_ne z, VS.del_ne z]; exact cl.ov a
  · by_cases z : a = l
    · subst z; rw [put_same] at q; cases q; exact ⟨_, hx⟩
    · rw [put_ne z] at q
      exact CellOk.mk (mv_hide ht (by nofun)).toMk rfl (cl.ok a e q)
end
end VS
namespace VS
open PySem L2 C8 PySem.Spec PyProof.Rows
/-! ### x in, not in a list of data -/
end VS
namespace VS
open PySem L2 C8 PySem.Spec PyProof.Rows
/-! ### an own class beside a built-in one -/
theorem kit_tyO {K : PySem.W.Frag} {C : Addr} {T : String} {b : Bool} (h : PySem.W.kitMeta T = true) (h2 : PySem.W.subIn K (.ref C) (.type T) = some b) : PySem.W.kitOne K (.ref C) (.type T) = some b := by
  unfold PySem.W.kitOne
  rw [if_neg (by simp)]
  show (if PySem.W.kitMeta T = true then PySem.W.subIn K (.ref C) (.type T) else none) = some b
  rw [if_pos h]
  exact h2
end VS
namespace VS
open PySem L2
/-! ### further words of the walk -/
section
variable {c : Ctx} {ρ : Rho} {S : Sto} {F : D → Sto → Prop}
theorem ex_ins {x : D} {C : Addr} {fs : List (Str × D)} {m : Str} {G : Prop} (i : IsI S x C fs) (h : fs.lookup m = none) (g : G) : ∃ fs, IsI S x C fs ∧ fs.lookup m = none ∧ G := ⟨fs, i, h, g⟩
theorem ex_fldI {K : PySem.W.Frag} {x : D} {C : Addr} {fs : List (Str × D)} {f : Str} {e : D} {G : D → Prop} (i : IsI S x C fs) (k : Cls K C) (n : NoAttr K C f) (h : fs.lookup f = some e) (g : G e) :
    ∃ C fs e, IsI S x C fs ∧ Cls K C ∧ NoAttr K C f ∧ fs.lookup f = some e ∧ G e := ⟨C, fs, e, i, k, n, h, g⟩
theorem ex_cell {l : Addr} {ds : List D} {G : Addr → Prop} (h : S l = some (.lst ds)) (g : G l) : ∃ l' ds, D.ref l = .ref l' ∧ S l' = some (.lst ds) ∧ G l' := ⟨l, ds, rfl, h, g⟩
end
end VS
namespace VS
theorem brYn {α : Type} {x y : α} [Decidable (x = y)] {A B : Prop} (e : x ≠ y) (b : B) : (decide (x = y) = true → A) ∧ (decide (x = y) = false → B) :=
  ⟨fun z => (by rw [decide_eq_false e] at z; cases z), fun _ => b⟩
theorem brYd {α : Type} {x y : α} [Decidable (x = y)] {A B : Prop} (e : x = y) (a : A) : (decide (x = y) = true → A) ∧ (decide (x = y) = false → B) :=
  ⟨fun _ => a, fun z => (by rw [decide_eq_true e] at z; cases z)⟩
end VS
namespace VS
open PySem L2
/-! ### data, by value or as a list or dict known by reference -/
inductive Da (S : Sto) : D → D → Prop
  | v {d : D} (p : isP d = true) : Da S d d
  | c {l : Addr} {ds : List D} (h : S l = some (.lst ds)) (p : isP (.lst ds) = true) : Da S (.ref l) (.lst ds)
  | k {l : Addr} {ds : List (Key × D)} (h : S l = some (.dK ds)) (p : isP (.dK ds) = true) : Da S (.ref l) (.dK ds)
def tyN : D → String
  | .non => "NoneType"
  | .bl _ => "bool"
  | .int _ => "int"
  | .str _ => "str"
  | .lst _ => "list"
  | .tup _ => "tuple"
  | .dK _ => "dict"
  | _ => ""
theorem tyN_all {P : String → Prop} (h1 : P "NoneType") (h2 : P "bool") (h3 : P "int") (h4 : P "str") (h5 : P "list") (h6 : P "tuple") (h7 : P "dict") : ∀ {d : D}, isP d = true → P (tyN d)
  | .non, _ => h1
  | .bl _, _ => h2
  | .int _, _ => h3
  | .str _, _ => h4
  | .lst _, _ => h5
  | .tup _, _ => h6
  | .dK _, _ => h7
  | .ty _, h => by cases h
  | .ref _, h => by cases h
  | .rol _, h => by cases h
  | .hid, h => by cases h
  | .ins _ _, h => by cases h
  | .xcp _ _ _ _, h => by cases h
  | .xv _ _, h => by cases h
section
variable {S S' : Sto} {d d' : D}
theorem Da.p (h : Da S d d') : isP d' = true := by cases h <;> assumption
theorem Da.ty (h : Da S d d') : TyS S d (tyN d') := by
  cases h with
  | v p =>
    cases d with
    | non => exact .non
    | bl b => exact .bl b
    | int i => exact .int i
    | str z => exact .str z
    | lst xs => exact .lst xs
    | tup xs => exact .tup xs
    | dK xs => exact .dK xs
    | _ => cases p
  | c h p => exact .cl h
  | k h p => exact .cd h
theorem Da.of {K : PySem.W.Frag} (h : Da S d d') : OfC K S d (.type (tyN d')) := .p h.ty
/-- of a built-in class -/
def isK (N : String) (d : D) : Bool := (kitB (tyN d) N).getD false
theorem isK_all {N : String} (h1 : (kitB "NoneType" N).isSome = true) (h2 : (kitB "bool" N).isSome = true) (h3 : (kitB "int" N).isSome = true) (h4 : (kitB "str" N).isSome = true) (h5 : (kitB "list" N).isSome = true) (h6 : (kitB "tuple" N).isSome = true) (h7 : (kitB "dict" N).isSome = true)
    (h : isP d = true) : kitB (tyN d) N = some (isK N d) := by
  have e := tyN_all (P := fun n => (kitB n N).isSome = true) h1 h2 h3 h4 h5 h6 h7 h
  unfold isK
  cases q : kitB (tyN d) N with
  | none => rw [q] at e; cases e
  | some b => rfl
theorem rc_isiD {c : Ctx} {F : D → Sto → Prop} {N : String} (h : Da S d d') (e : kitB (tyN d') N = some (isK N d')) (q : F (.bl (isK N d')) S) : RC c (rIsiZ c.K) [d, .ty N] S F := rc_isi h.ty e q
theorem isK_str (h : isP d = true) : kitB (tyN d) "str" = some (isK "str" d) := isK_all rfl rfl rfl rfl rfl rfl rfl h
theorem isK_list (h : isP d = true) : kitB (tyN d) "list" = some (isK "list" d) := isK_all rfl rfl rfl rfl rfl rfl rfl h
theorem isK_tuple (h : isP d = true) : kitB (tyN d) "tuple" = some (isK "tuple" d) := isK_all rfl rfl rfl rfl rfl rfl rfl h
theorem isPL_mem : ∀ {xs : List D}, isPL xs = true → ∀ x ∈ xs, isP x = true
  | y :: ys, h, x, hx => by
    have h' : (isP y && isPL ys) = true := h
    rw [Bool.and_eq_true] at h'
    rcases List.mem_cons.mp hx with rfl | hx
    · exact h'.1
    · exact isPL_mem h'.2 x hx
theorem isPL_of : ∀ {xs : List D}, (∀ x ∈ xs, isP x = true) → isPL xs = true
  | [], _ => rfl
  | y :: ys, h => by
    show (isP y && isPL ys) = true
    rw [h y (List.mem_cons_self ..), isPL_of fun x hx => h x (List.mem_cons_of_mem _ hx)]; rfl
/-- all items of a list are data, one to one -/
inductive DaL (S : Sto) : List D → List D → Prop
  | nil : DaL S [] []
  | cons {d d' : D} {ds ds' : List D} (h : Da S d d') (t : DaL S ds ds') : DaL S (d :: ds) (d' :: ds')
theorem DaL.at : ∀ {xs ys : List D} {i : Nat} {d : D}, DaL S xs ys → xs[i]? = some d → ∃ d', ys[i]? = some d' ∧ Da S d d'
  | _, _, _, _, .nil, e => by simp at e
  | _, _, 0, _, .cons h _, e => by simp at e; subst e; exact ⟨_, rfl, h⟩
  | _, _, i + 1, d, .cons _ t, e => by
    obtain ⟨d', h1, h2⟩ := DaL.at (i := i) (d := d) t (by simpa using e)
    exact ⟨d', by simpa using h1, h2⟩
theorem DaL.length : ∀ {xs ys : List D}, DaL S xs ys → xs.length = ys.length
  | _, _, .nil => rfl
  | _, _, .cons _ t => congrArg Nat.succ t.length
theorem DaL.append : ∀ {xs ys us vs : List D}, DaL S xs ys → DaL S us vs → DaL S (xs ++ us) (ys ++ vs)
  | _, _, _, _, .nil, k => k
  | _, _, _, _, .cons h t, k => .cons h (t.append k)
end
end VS
namespace VS
open L2
theorem atI_zero {α : Type} {x : α} {xs : List α} : atI (x :: xs) 0 = some x := atI_nat (j := 0) rfl
end VS
namespace VS
open PySem L2 C8
section
variable {c : Ctx} {S : Sto} {F : D → Sto → Prop}
theorem rv_catA {xs ys : List D} (hl : xs.length + ys.length ≤ sizeLine) (q : F (.tup (xs ++ ys)) S) : RV c (rCatA c.K) (.tup xs) (.tup ys) S F := fun T u w H cl r1 r2 Q k => by
  obtain ⟨a, us, rfl, s1, rr1⟩ := r1.seqT
  obtain ⟨b, ws, rfl, s2, rr2⟩ := r2.seqT
  refine ⟨a, b, us, ws, rfl, rfl, s1, s2, by rw [rr1.length, rr2.length]; exact hl, fun e => ?_, fun _ e => ?_, fun _ _ p hp => ?_⟩
  · subst e
    cases rr1
    exact k _ _ S T H Mv.refl cl r2 q
  · subst e
    cases rr2
    rw [List.append_nil] at q
    exact k _ _ S T H Mv.refl cl r1 q
  · exact k _ _ S T _ (mv_new hp) (cl.new hp) (.tup (cl.free hp) upd_same ((rr1.append rr2).mv (mv_new hp))) q
theorem rs_tupG {ds : List D} {lo hi : Option Int} (q : F (.tup (cutD ds lo hi)) S) : RS c (rSlA c.K) (.tup ds) lo hi S F := by
  by_cases n : HT.sIx ds.length 0 lo = 0 ∧ HT.sIx ds.length ds.length hi = ds.length
  · have e : cutD ds lo hi = ds := by
      unfold cutD
      rw [n.1, n.2, List.drop_zero, Nat.sub_zero, List.take_length]
    rw [e] at q
    exact fun T u H cl r Q k => by
      obtain ⟨a, xs, rfl, s, rr⟩ := r.seqT
      exact ⟨a, xs, rfl, s, fun _ => k _ _ S T H Mv.refl cl r q, fun z => absurd (by rw [rr.length]; exact n) z⟩
  · exact rs_tupA n q
theorem cut_mem {xs : List D} {lo hi : Option Int} {y : D} (h : y ∈ cutD xs lo hi) : y ∈ xs := List.mem_of_mem_drop (List.mem_of_mem_take h)
theorem cut_len {xs : List D} {lo hi : Option Int} : (cutD xs lo hi).length ≤ xs.length := by
  unfold cutD
  rw [List.length_take, List.length_drop]
  omega
end
end VS
namespace VS
theorem ex_two {x y : D} {G : D → D → Prop} (g : G x y) : ∃ x' y', ([x, y] : List D) = [x', y'] ∧ G x' y' := ⟨x, y, rfl, g⟩
end VS
namespace VS
open L2
theorem ixN_in {n : Nat} {i : Int} (h0 : 0 ≤ i) (h1 : i < n) : ixN n i = some i.toNat := by
  unfold ixN
  rw [if_pos h0, if_pos h1]
end VS
namespace VS
open PySem L2
theorem keepc {S : Sto} {p a : Addr} {d x : D} (h : S a = some x) (hp : S p = none) : put S p d a = some x := (put_ne (ne_at h hp)).trans h
end VS
namespace VS
open PySem L2
theorem Da.put {S : Sto} {y : Addr} {x d d' : D} (h : Da S d d') (hy : S y = none) : Da (VS.put S y x) d d' := by
  cases h with
  | v p => exact .v p
  | c h p => exact .c (keepc h hy) p
  | k h p => exact .k (keepc h hy) p
end VS
namespace VS
end VS
namespace VS
open PySem L2 C8
/-! ### try by name -/
def tTry (K : PySem.W.Frag) (tb : WX → TS) (l : List Cla) : TS := fun D σ H => tb (wCla K D l) D σ H
section
variable {X : Cx}
theorem ps_tryD {body : List Stmt} {h₀ : ExceptHandler} {hds : List ExceptHandler} {l : List Cla} {tb : WX → TS} {pos : Pos} (hs : X.stack = X.env :: X.outer) (hf : X.env.frame = some X.env.locals) (hN : X.N.Nodup)
    (hb : ∀ (W : WX) (pn : List (Addr × Obj)) (xe : Value → Shared → Prop), Takes (X.tr pn xe) W → PassesOwn (model X.prog X.w) X.A X.env xe → PSs (X.tr pn xe) body (tb W)) (hh : Clas X (h₀ :: hds) l) :
    PS X (.Try body (h₀ :: hds) [] [] pos) (tTry X.K tb l) := ps_tryC hs hf hN hb hh
end
theorem vx_tryD {c : Ctx} {ρ : Rho} {S : Sto} {P : Po} {tb : WX → TS} {l : List Cla} (h : ∀ E' : L2.St → XK, VX ⟨c.K, E', fun C fs ρ' S' => HdV c P l C fs ρ' S'⟩ (tb (fun cls d σ H => E' σ cls d H)) ρ S P) :
    VX c (tTry c.K tb l) ρ S P := vx_try h
theorem hd_hit {c : Ctx} {ρ : Rho} {S : Sto} {P : Po} {k : Cla} {r : List Cla} {C : Addr} {fs : List (Str × D)} (e : PySem.W.exmOne c.K (.ref C) k.c = some true) (h : ∀ a dd, VX c (k.t a (.ref C) (some dd)) (inR k.i (.xcp a dd C fs) ρ) S (offP k.i P)) :
    HdV c P (k :: r) C fs ρ S := ⟨true, e, fun _ => h, nofun⟩
end VS
namespace VS
open PySem L2 C8
theorem ex_xf {a dd C : Addr} {fs : List (Str × D)} {f : Str} {e : D} {G : D → Prop} (h : fs.lookup f = some e) (g : G e) : ∃ dd' fs' e', D.xcp a dd C fs = .xcp a dd' C fs' ∧ some dd = some dd' ∧ fs'.lookup f = some e' ∧ G e' := ⟨dd, fs, e, rfl, rfl, h, g⟩
end VS
namespace VS
open PySem L2 C8
/-! ### within a clause's suite -/
end VS
namespace VS
open PySem L2
/-! ### what is known by reference read as by value meanwhile -/
section
variable {c : Ctx} {ρ ρ' : Rho} {S : Sto} {F : D → Sto → Prop} {G : Bool → Sto → Prop}
open Classical in
/-- the cells of V by value, all others hidden -/
noncomputable def viewT (V : Addr → Prop) (T : Sto) : Sto := fun b => if V b then none else (T b).map fun _ => .hid
abbrev noS : Sto := fun _ => none
theorem viewT_none {V : Addr → Prop} {T : Sto} {a : Addr} (h : T a = none) : viewT V T a = none := by
  unfold viewT
  split
  · rfl
  · rw [h]; rfl
theorem viewT_in {V : Addr → Prop} {T : Sto} {a : Addr} (h : V a) : viewT V T a = none := by
  unfold viewT
  rw [if_pos h]
theorem viewT_out {V : Addr → Prop} {T : Sto} {a : Addr} {d : D} (h : ¬ V a) (e : T a = some d) : viewT V T a = some .hid := by
  unfold viewT
  rw [if_neg h, e]; rfl
theorem viewT_some {V : Addr → Prop} {T : Sto} {a : Addr} {d : D} (e : viewT V T a = some d) : d = .hid ∧ ∃ d', T a = some d' := by
  unfold viewT at e
  split at e
  · cases e
  · cases q : T a with
    | none => rw [q] at e; cases e
    | some d' => rw [q] at e; cases e; exact ⟨rfl, d', rfl⟩
theorem mv_view {V : Addr → Prop} {T : Sto} {H : Hp} (hV : ∀ l, V l → T l ≠ some .hid) : Mv T H (viewT V T) H where
  keep := fun _ _ _ h => h
  fresh := fun _ s _ => viewT_none s
  hid := fun a o s e => ⟨e, viewT_out (fun z => hV a z s) s⟩
theorem cells_view {K : PySem.W.Frag} {V : Addr → Prop} {T : Sto} {H : Hp} (cl : Cells K H S T) : Cells K H noS (viewT V T) where
  ov := fun a => by
    cases q : viewT V T a with
    | none => exact .inl ⟨rfl, by simp⟩
    | some d => obtain ⟨rfl, _⟩ := viewT_some q; exact .inr ⟨rfl, rfl⟩
  ok := fun a d e => by
    obtain ⟨rfl, d', h⟩ := viewT_some e
    have h' := cl.ok a d' h
    cases q : H a with
    | none => exact absurd q h'.there
    | some o => exact ⟨o, q⟩
theorem rep_flat {K : PySem.W.Frag} {H H' : Hp} {T T' : Sto} {v : V} {d : D} (f : flatD d = true) (r : Rep K H T v d) : Rep K H' T' v d := by
  cases r with
  | non => exact .non
  | bl b => exact .bl b
  | int i => exact .int i
  | str x => exact .str x
  | ty n => exact .ty n
  | ref a => exact .ref a
  | _ => cases f
/-- behind it all is as it was -/
theorem view_back {K : PySem.W.Frag} {V : Addr → Prop} {T T' : Sto} {H H' : Hp} {S' : Sto} (hV : ∀ l, V l → T l ≠ some .hid) (cl : Cells K H S T) (m : Mv (viewT V T) H T' H') (_ : Cells K H' S' T') : Mv T H T H' ∧ Cells K H' S T := by
  have same : ∀ a d, T a = some d → H' a = H a := fun a d e => by
    have th := (cl.ok a d e).there
    cases q : H a with
    | none => exact absurd q th
    | some o =>
      by_cases hv : V a
      · exact m.keep a o (viewT_in hv) q
      · exact (m.hid a o (viewT_out hv e) q).1
  have mm : Mv T H T H' := ⟨⟨fun a o s e => m.keep a o (viewT_none s) e, fun _ s _ => s⟩, fun a o s e => ⟨by rw [same a _ s]; exact e, s⟩⟩
  exact ⟨mm, cl.ov, fun a d e => CellOk.mv mm (same a d e) (cl.ok a d e)⟩
/-- the slots, some of them read -/
structure Views (V : Addr → Prop) (S : Sto) (ρ ρ' : Rho) : Prop where
  len : ρ'.length = ρ.length
  at_ : ∀ (i : Nat) (d' : D), ρ'[i]? = some (some d') → ρ[i]? = some (some d') ∨ ∃ l, ρ[i]? = some (some (.ref l)) ∧ S l = some d' ∧ d' ≠ .hid ∧ V l
  ok : ∀ l, V l → ∃ d, S l = some d ∧ d ≠ .hid
theorem Views.in {V : Addr → Prop} {T : Sto} {σ : St} {H : Hp} (w : Views V S ρ ρ') (I : In c σ H ρ S T) : (∀ l, V l → T l ≠ some .hid) ∧ In c σ H ρ' noS (viewT V T) := by
  have hV : ∀ l, V l → T l ≠ some .hid := fun l h => by
    obtain ⟨d, e, n⟩ := w.ok l h
    exact I.cells.nohid e n
  have m := mv_view (H := H) hV
  have cl := cells_view (V := V) I.cells
  refine ⟨hV, cl, fun i d' e => ?_, by rw [w.len]; exact I.len, (I.mv m cl).exc⟩
  rcases w.at_ i d' e with h | ⟨l, h, hs, n, hv⟩
  · obtain ⟨v, h1, h2⟩ := I.slots i d' h
    exact ⟨v, h1, h2.mv m⟩
  · obtain ⟨v, h1, h2⟩ := I.slots i _ h
    cases h2
    refine ⟨_, h1, ?_⟩
    have ht := I.cells.at hs
    have r := I.cells.ok l d' ht
    cases d' with
    | lst ds => obtain ⟨xs, hx, rr⟩ := r; exact .lst (viewT_in hv) hx (rr.mv m)
    | dK ds => obtain ⟨xs, hx, rr⟩ := r; exact .dK (viewT_in hv) (.inl hx) (rr.mv m)
    | ins C ds => obtain ⟨dx, fs, hx, rr⟩ := r; exact .ins (viewT_in hv) hx (rr.mv m)
    | hid => exact absurd rfl n
    | _ => exact r.elim
end
end VS
namespace VS
open PySem L2
section
variable {c : Ctx} {ρ ρ' : Rho} {S : Sto} {F : D → Sto → Prop} {G : Bool → Sto → Prop}
/-- the items of a list or a tuple -/
def rowsOf : D → List D
  | .lst xs => xs
  | .tup xs => xs
  | _ => []
def isLT : D → Bool
  | .lst _ => true
  | .tup _ => true
  | _ => false
theorem Da.isQ {d d' : D} (hd : Da S d d') (h : isLT d' = true) : IsQ S d (rowsOf d') := by
  cases hd with
  | v p =>
    cases d with
    | lst xs => exact .l .v
    | tup xs => exact .t
    | _ => cases h
  | c hl p => exact .l (.c hl)
  | k hl p => cases h
theorem isS_of {d : D} (h : isLT d = true) : IsS d (rowsOf d) := by
  cases d with
  | lst xs => exact .l .v
  | tup xs => exact .t
  | _ => cases h
theorem rc_isiLT {d d' : D} (hd : Da S d d') (q : F (.bl (isLT d')) S) : RC c (rIsiV c.K) [d, .tup [.ty "list", .ty "tuple"]] S F := by
  have e : PySem.W.kitAny c.K (.type (tyN d')) [.type "list", .type "tuple"] = some (isLT d') := by
    have p := hd.p
    cases d' with
    | non => rfl
    | bl b => rfl
    | int i => rfl
    | str z => rfl
    | lst xs => rfl
    | tup xs => rfl
    | dK xs => rfl
    | _ => cases p
  exact rc_isiV hd.of (.cons (.ty _) (.cons (.ty _) .nil)) e q
theorem ex_self {K : PySem.W.Frag} {l C : Addr} {fs : List (Str × D)} {f : Str} {G : Addr → Addr → List (Str × D) → Prop} (h : S l = some (.ins C fs)) (k : Cls K C) (n : NoAttr K C f) (hl : fs.length < 1000) (g : G l C fs) :
    ∃ l' C' fs', D.ref l = .ref l' ∧ S l' = some (.ins C' fs') ∧ Cls K C' ∧ NoAttr K C' f ∧ fs'.length < 1000 ∧ G l' C' fs' := ⟨l, C, fs, rfl, h, k, n, hl, g⟩
end
end VS
namespace VS
open PySem L2 C8 PySem.Spec PyProof.Rows
/-! ### len and != by an own def -/
end VS
namespace VS
open PySem L2 C8
end VS
namespace VS
open PySem L2 C8 PySem.Spec PyProof.Rows
/-! ### == with an empty list, an empty tuple -/
def rEqE (K : PySem.W.Frag) : R2 := fun x y H Q => ∃ a b xs, x = .ref a ∧ y = .ref b ∧ ((SqL K H a xs ∧ SqL K H b []) ∨ (SqT K H a xs ∧ SqT K H b [])) ∧ Q (.bl xs.isEmpty) H
theorem op_eqE {X : Cx} {k : Nat} (hr : Room k X.A) : OpR X (compareOp .Eq) (rEqE X.K) := by
  intro pins s σ H x y v u Q I rx ry h
  obtain ⟨a, b, xs, rfl, rfl, hq, q⟩ := h
  cases rx
  cases ry
  have sz : ∀ {ws : List V} {us : List Value}, Vals ws us → us.toArray.size = ws.length := fun r => by rw [List.size_toArray, r.length]
  rcases hq with ⟨h1, h2⟩ | ⟨h1, h2⟩
  · obtain ⟨its, rv, p, _⟩ := I.list h1
    obtain ⟨its2, rv2, p2, _⟩ := I.list h2
    cases rv2
    cases rv with
    | nil => exact SeqAt.eq_listAt (e := fun _ => true) p.isList p2.isList rfl hr.units0 (fun j h => absurd h (by simp)) ⟨.bl true, H, I, rfl, q⟩
    | cons r rs => exact SeqAt.eq_list_lengthsAt p.isList p2.isList (by simp) hr.units0 ⟨.bl false, H, I, rfl, q⟩
  · obtain ⟨its, rv, p, _⟩ := I.tuple h1
    obtain ⟨its2, rv2, p2, _⟩ := I.tuple h2
    cases rv2
    have e : ((List.range (min its.toArray.size ([] : List Value).toArray.size)).all (fun _ => true) && its.toArray.size == ([] : List Value).toArray.size) = xs.isEmpty := by
      cases rv with
      | nil => rfl
      | cons r rs => simp
    refine SeqAt.eq_tupleAt (e := fun _ => true) (show s.heap.IsTuple a its.toArray from p) (show s.heap.IsTuple b _ from p2) hr.units0 (fun j _ h => absurd h (by simp)) ?_
    rw [e]
    exact ⟨.bl xs.isEmpty, H, I, rfl, q⟩
section
variable {c : Ctx} {S : Sto} {F : D → Sto → Prop}
theorem rv_eqEL {x : D} {xs : List D} (h : IsL S x xs) (q : F (.bl xs.isEmpty) S) : RV c (rEqE c.K) x (.lst []) S F := fun T u w H cl r1 r2 Q k => by
  obtain ⟨a, us, rfl, s1, rr⟩ := h.rd cl r1
  obtain ⟨b, ws, rfl, s2, rr2⟩ := (IsL.v (S := S) (ds := [])).rd cl r2
  cases rr2
  refine ⟨a, b, us, rfl, rfl, .inl ⟨s1, s2⟩, ?_⟩
  have e : us.isEmpty = xs.isEmpty := by cases rr <;> rfl
  rw [e]
  exact k _ _ S T H Mv.refl cl (.bl _) q
theorem rv_eqET {xs : List D} (q : F (.bl xs.isEmpty) S) : RV c (rEqE c.K) (.tup xs) (.tup []) S F := fun T u w H cl r1 r2 Q k => by
  obtain ⟨a, us, rfl, s1, rr⟩ := r1.seqT
  obtain ⟨b, ws, rfl, s2, rr2⟩ := r2.seqT
  cases rr2
  refine ⟨a, b, us, rfl, rfl, .inr ⟨s1, s2⟩, ?_⟩
  have e : us.isEmpty = xs.isEmpty := by cases rr <;> rfl
  rw [e]
  exact k _ _ S T H Mv.refl cl (.bl _) q
end
end VS
namespace VS
open PySem L2 C8 PySem.Spec PyProof.Rows
def rNeE (K : PySem.W.Frag) : R2 := fun x y H Q => ∃ a b xs, x = .ref a ∧ y = .ref b ∧ ((SqL K H a xs ∧ SqL K H b []) ∨ (SqT K H a xs ∧ SqT K H b [])) ∧ Q (.bl (!xs.isEmpty)) H
theorem op_neE {X : Cx} {k : Nat} (hr : Room k X.A) : OpR X (compareOp .NotEq) (rNeE X.K) := by
  intro pins s σ H x y v u Q I rx ry h
  obtain ⟨a, b, xs, rfl, rfl, hq, q⟩ := h
  cases rx
  cases ry
  show wpAny _ _ (richCompare .NotEq (.ref a) (.ref b)) _ _ _
  rcases hq with ⟨h1, h2⟩ | ⟨h1, h2⟩
  · obtain ⟨its, rv, p, _⟩ := I.list h1
    obtain ⟨its2, rv2, p2, _⟩ := I.list h2
    cases rv2
    cases rv with
    | nil => exact SeqAt.RcNeAt.lists (e := fun _ => true) p.isList p2.isList rfl hr.units0 (fun j h => absurd h (by simp)) _ _ _ _ ⟨.bl false, H, I, rfl, q⟩
    | cons r rs => exact SeqAt.RcNeAt.lists_lengths p.isList p2.isList (by simp) hr.units0 _ _ _ _ ⟨.bl true, H, I, rfl, q⟩
  · obtain ⟨its, rv, p, _⟩ := I.tuple h1
    obtain ⟨its2, rv2, p2, _⟩ := I.tuple h2
    cases rv2
    have e : (!((List.range (min its.toArray.size ([] : List Value).toArray.size)).all (fun _ => true) && its.toArray.size == ([] : List Value).toArray.size)) = !xs.isEmpty := by
      cases rv with
      | nil => rfl
      | cons r rs => simp
    refine SeqAt.RcNeAt.tuples (e := fun _ => true) (show s.heap.IsTuple a its.toArray from p) (show s.heap.IsTuple b _ from p2) hr.units0 (fun j _ h => absurd h (by simp)) _ _ _ _ ?_
    rw [e]
    exact ⟨.bl (!xs.isEmpty), H, I, rfl, q⟩
section
variable {c : Ctx} {S : Sto} {F : D → Sto → Prop}
theorem rv_neEL {x : D} {xs : List D} (h : IsL S x xs) (q : F (.bl (!xs.isEmpty)) S) : RV c (rNeE c.K) x (.lst []) S F := fun T u w H cl r1 r2 Q k => by
  obtain ⟨a, us, rfl, s1, rr⟩ := h.rd cl r1
  obtain ⟨b, ws, rfl, s2, rr2⟩ := (IsL.v (S := S) (ds := [])).rd cl r2
  cases rr2
  refine ⟨a, b, us, rfl, rfl, .inl ⟨s1, s2⟩, ?_⟩
  have e : us.isEmpty = xs.isEmpty := by cases rr <;> rfl
  rw [e]
  exact k _ _ S T H Mv.refl cl (.bl _) q
theorem rv_neET {xs : List D} (q : F (.bl (!xs.isEmpty)) S) : RV c (rNeE c.K) (.tup xs) (.tup []) S F := fun T u w H cl r1 r2 Q k => by
  obtain ⟨a, us, rfl, s1, rr⟩ := r1.seqT
  obtain ⟨b, ws, rfl, s2, rr2⟩ := r2.seqT
  cases rr2
  refine ⟨a, b, us, rfl, rfl, .inr ⟨s1, s2⟩, ?_⟩
  have e : us.isEmpty = xs.isEmpty := by cases rr <;> rfl
  rw [e]
  exact k _ _ S T H Mv.refl cl (.bl _) q
end
end VS
namespace VS
open PySem L2 C8 PySem.Spec PyProof.Rows
/-! ### == with an own instance on the right -/
section
variable {prog : Program} {w : World} {A : Around} {E : Value → Shared → Prop} {s : Shared} {K : PySem.W.Frag} {x C dx f : Addr} {u : Value} {T : String}
/-- the kinds that decline -/
inductive LKd : Value → String → Prop
  | non : LKd .none "NoneType" | bl (b : Bool) : LKd (.bool b) "bool" | int (i : Int) (t : Tok) : LKd (.int i t) "int" | str (x : Str) (t : Tok) : LKd (.str x t) "str"
  | lst (a : Addr) : LKd (.ref a) "list" | tup (a : Addr) : LKd (.ref a) "tuple" | dct (a : Addr) : LKd (.ref a) "dict"
end
section
variable {X : Cx} {k : Nat} {f C : Addr} {fd : FuncData} {ps : List Str} {sp : Sp}
inductive KdV : V → String → Prop
  | non : KdV .non "NoneType" | bl (b : Bool) : KdV (.bl b) "bool" | int (i : Int) : KdV (.int i) "int" | str (x : Str) : KdV (.str x) "str"
  | lst (a : Addr) : KdV (.ref a) "list" | tup (a : Addr) : KdV (.ref a) "tuple" | dct (a : Addr) : KdV (.ref a) "dict"
theorem KdV.ok {x : V} {u : Value} {T : String} (k : KdV x T) (r : RelV x u) : LKd u T := by
  cases k with
  | non => cases (show u = Value.none from r); exact .non
  | bl b => cases (show u = Value.bool b from r); exact .bl b
  | int i => obtain ⟨t, q⟩ := (show ∃ t, u = Value.int i t from r); cases q; exact .int i t
  | str y => obtain ⟨t, q⟩ := (show ∃ t, u = Value.str y t from r); cases q; exact .str y t
  | lst a => cases (show u = Value.ref a from r); exact .lst a
  | tup a => cases (show u = Value.ref a from r); exact .tup a
  | dct a => cases (show u = Value.ref a from r); exact .dct a
end
end VS
namespace VS
open PySem L2 PySem.Spec PyProof.Rows
/-! ### C(e) as a value, C an own exception class of one field -/
end VS
namespace VS
open PySem L2 C8 PySem.Spec PyProof.Rows
/-! ### reversed(a list by value) -/
end VS
namespace VS
open PySem L2 PySem.Spec PyProof.Rows
/-! ### len(set(texts)) -/
/-- how many unlike ones stand among the first i -/
def unl (xs : List Str) : Nat → Nat
  | 0 => 0
  | i + 1 => bif (xs.take i).any (· == xs.getD i Str.empty) then unl xs i else unl xs i + 1
def inI (xs : List Str) (i : Nat) (k : Str) : Bool := (xs.take i).any (· == k)
theorem unl_le {xs : List Str} : ∀ i, unl xs i ≤ i
  | 0 => Nat.le_refl _
  | i + 1 => by
    have := unl_le (xs := xs) i
    unfold unl
    cases (xs.take i).any (· == xs.getD i Str.empty)
    · simp only [cond_false]; omega
    · simp only [cond_true]; omega
theorem getD_at {xs : List Str} {i : Nat} (h : i < xs.length) : xs.getD i Str.empty = xs[i] := by
  rw [List.getD_eq_getElem?_getD, List.getElem?_eq_getElem h] <;> rfl
theorem inI_put {xs : List Str} {i : Nat} (h : i < xs.length) (k : Str) : (inI xs i k || decide (k = xs.getD i Str.empty)) = inI xs (i + 1) k := by
  unfold inI
  rw [List.take_add_one, List.getElem?_eq_getElem h, getD_at h, List.any_append]
  congr 1
  show decide (k = xs[i]) = ((xs[i] == k) || false)
  rw [Bool.or_false]
  by_cases e : k = xs[i]
  · subst e; simp
  · rw [decide_eq_false e]; exact (beq_eq_false_iff_ne.mpr (Ne.symm e)).symm
section
variable {prog : Program} {w : World} {A : Around} {E : Value → Shared → Prop} {s : Shared}
abbrev HasT (prog : Program) (w : World) (h : Heap) (a : Addr) (xs : List Str) (i : Nat) : Prop := h.SetOf (PySem.strKind prog w) a (inI xs i) (unl xs i)
theorem HasT.keep {h h' : Heap} {a : Addr} {xs : List Str} {i : Nat} (t : HasT prog w h a xs i) (k : ∀ o, h.get? a = some o → h'.get? a = some o) : HasT prog w h' a xs i := by
  obtain ⟨o, es, ep, t, g, r⟩ := t
  exact ⟨o, es, ep, t, k _ g, r⟩
theorem put_each {R : Result → Shared → Prop} {I : Addr} {fp wr : List Addr} {G : Array GenState → Array GenState → Prop} {n : Nat} {P : Nat → Value → Prop} {St : Nat → Shared → Prop}
    (W : WalksS prog w A.in1 I fp wr G n P St) {a : Addr} (na : a ∉ fp) {xs : List Str} (le : xs.length = n) (sm : n + 1 < scanBound) (vl : ∀ i v, P i v → ∃ t, v = .str (xs.getD i Str.empty) t) (k : Nat) :
    ∀ (i : Nat) (s : Shared), i + k = n → St i s → HasT prog w s.heap a xs i → (∀ s', Moved (a :: wr) G s s' → HasT prog w s'.heap a xs n → R (.ok (.ret .none)) s') →
      codeAny (model prog w) A (.builtin "set.update.loop" ⟨[.ref a, .ref I], []⟩) R s := by
  have nw : a ∉ wr := fun z => na (W.sub a z)
  have wide : ∀ {x y : Shared}, Moved wr G x y → Moved (a :: wr) G x y := fun m => ⟨fun b o z => m.heap b o fun y => z (.tail _ y), m.gens, m.drawn, m.os, m.toks⟩
  induction k with
  | zero =>
    intro i s e st t q
    obtain rfl : i = n := e
    refine codeAny_builtin F.entry_set_update_loop ?_
    rw [Around.under_plainId F.plain_set_update_loop _]
    exact wpAny_bind (m := pyNext (.ref I)) (W.done s _ _ st fun s' m => wpAny_pure (q s' (wide m) (t.keep fun o => m.heap a o nw)))
  | succ k ih =>
    intro i s e st t q
    have lt : i < n := by omega
    refine codeAny_builtin F.entry_set_update_loop ?_
    rw [Around.under_plainId F.plain_set_update_loop _]
    refine wpAny_bind (m := pyNext (.ref I)) (W.item i s _ _ lt st fun v s1 p1 st1 m1 => ?_)
    obtain ⟨tk, rfl⟩ := vl i v p1
    have t1 : HasT prog w s1.heap a xs i := t.keep fun o => m1.heap a o nw
    have up := unl_le (xs := xs) i
    show wpAny _ A.in1 (holding _ (setAdd a (.str (xs.getD i Str.empty) tk)) >>= _) _ _ s1
    refine wpAny_bind (wpAny_holding ?_)
    unfold setAdd
    refine wpAny_holding (wpAny_bind ((PySem.strKind prog w).pyHash (k := xs.getD i Str.empty) (strKind_is _ _ _ _) ?_))
    refine wpAny_setAddHashed_of (knd := PySem.strKind prog w) (s := { s1 with toks := s1.toks + 1 }) (strKind_is _ _ _ _) rfl t1 (by omega) fun h2 sb t2 => ?_
    have t3 : HasT prog w h2 a xs (i + 1) := SetOf_congr t2 (inI_put (by omega)) (by show (if inI xs i _ = true then _ else _) = bif inI xs i _ then _ else _; cases inI xs i (xs.getD i Str.empty) <;> rfl)
    have away : ∀ b, b ≠ a → ∀ o, s1.heap.get? b = some o → h2.get? b = some o := fun b ne o z => by rw [sb.2 b ne]; exact z
    refine wpAny_pure ⟨plainId_quiet F.plain_set_update_loop _, ih (i + 1) _ (by omega) (W.frame _ s1 _ _ st1 (Nat.le_succ _) fun b hb o z => away b (fun y => na (y ▸ hb)) o z) t3 fun s4 m4 t4 => ?_⟩
    exact q s4 (Moved.trans W.gtrans ((wide m1).then_heap (Nat.le_succ _) fun b o hb z => away b (fun y => hb (y ▸ .head _)) o z) m4) t4
abbrev set0 (led : Bool) : Obj := { cls := .type "set", dict := none, data := .set #[] 0 (.fresh 0 0 led) }
theorem has0 {h : Heap} {a : Addr} {led : Bool} {xs : List Str} (g : h.get? a = some (set0 led)) : HasT prog w h a xs 0 := SetOf_congr ((setObjOf_fresh (knd := PySem.strKind prog w) led).setOf g (by decide)) (fun _ => rfl) rfl
theorem strs_get : ∀ {us : List Value} {xs : List Str}, StrsAre us xs → ∀ (i : Nat) (v : Value), us[i]? = some v → ∃ t, v = .str (xs.getD i Str.empty) t
  | _, _, .nil, i, v, h => by simp at h
  | _, _, .cons y t r, 0, v, h => ⟨t, (Option.some.inj h).symm⟩
  | _, _, .cons y t r, i + 1, v, h => strs_get r i v h
theorem iter_fill {l a : Addr} {its : Array Value} {xs : List Str} {led : Bool} {Q : Value → Shared → Prop} (hh : A.handled = none) (src : s.heap.IsList l its ∨ s.heap.IsTuple l its) (ts : StrsAre its.toList xs) (sm : its.size + 1 < scanBound)
    (ga : s.heap.get? a = some (set0 led)) (q : ∀ h' tk, HasT prog w h' a xs its.size → (∀ b o, b ≠ a → s.heap.get? b = some o → h'.get? b = some o) → Q .none { s with heap := h', toks := tk }) :
    wpAny (model prog w) A (pyIter (.ref l)) (fun it s1 => wpAny (model prog w) A (runValue (.builtin "set.update.loop" ⟨[.ref a, it], []⟩)) Q E s1) E s := by
  have len : xs.length = its.size := by rw [← StrsAre.len_eq ts, Array.length_toList]
  have la : a < s.heap.objs.size := Heap.lt_size ga
  have ll : l < s.heap.objs.size := by rcases src with ⟨o, g, _⟩ | ⟨o, g, _⟩ <;> exact Heap.lt_size g
  have nl : a ≠ l := fun z => by
    subst z
    rcases src with ⟨o, g, c, _⟩ | ⟨o, g, c, _⟩ <;>
    · rw [ga] at g
      cases g
      exact absurd (Value.type.inj c) (by decide)
  have vl : ∀ (i : Nat) (v : Value), its[i]? = some v → ∃ t, v = .str (xs.getD i Str.empty) t := fun i v hv => strs_get ts i v (by rw [Array.getElem?_toList]; exact hv)
  have nw : a ≠ s.heap.objs.size := Nat.ne_of_lt la
  have na : a ∉ [s.heap.objs.size, l] := fun z => by
    rcases List.mem_cons.mp z with z | z
    · exact nw z
    · exact nl (by simpa using z)
  have h1 : A.in1.handled = none := by simpa using hh
  have fin : ∀ (o : Obj) {P : Nat → Value → Prop} {St : Nat → Shared → Prop} {G : Array GenState → Array GenState → Prop}, WalksS prog w A.in1 s.heap.objs.size [s.heap.objs.size, l] [s.heap.objs.size] G its.size P St → (∀ x y, G x y → y = x) → (∀ i v, P i v → its[i]? = some v) →
      St 0 { s with heap := s.heap.push o } → wpAny (model prog w) A (runValue (.builtin "set.update.loop" ⟨[.ref a, .ref s.heap.objs.size], []⟩)) Q E { s with heap := s.heap.push o } := fun o P St G W eg pv st => by
    refine wpAny_runValue (put_each W na len sm (fun i v z => vl i v (pv i v z)) its.size 0 _ (Nat.zero_add _) st (has0 (led := led) (Heap.get?_push_of_some _ ga)) fun s' m t => ?_)
    obtain ⟨h', g', d', tk', os'⟩ := s'
    have e1 : g' = s.gens := eg _ _ m.gens
    have e2 : d' = s.drawn := m.drawn
    have e3 : os' = s.os := m.os
    subst e1; subst e2; subst e3
    refine q h' tk' t fun b o' nb z => m.heap b o' (fun y => ?_) (Heap.get?_push_of_some _ z)
    rcases List.mem_cons.mp y with y | y
    · exact nb y
    · have : b < s.heap.objs.size := Heap.lt_size z
      have e : b = s.heap.objs.size := by simpa using y
      exact absurd e (Nat.ne_of_lt this)
  rcases src with src | src
  · refine wpAny_pyIter_list src ?_
    exact fin _ (Walks.list h1 _ l (Nat.ne_of_lt ll) its).toS (fun _ _ e => e) (fun _ _ e => e) ⟨⟨_, Heap.get?_push_size _ rfl, rfl, rfl⟩, src.push _⟩
  · refine wpAny_pyIter_tuple src ?_
    exact fin _ (Walks.tuple h1 _ l (Nat.ne_of_lt ll) its).toS (fun _ _ e => e) (fun _ _ e => e) ⟨⟨_, Heap.get?_push_size _ rfl, rfl, rfl⟩, src.push _⟩
theorem set_made {l : Addr} {its : Array Value} {xs : List Str} {Q : Value → Shared → Prop} (hh : A.handled = none) (src : s.heap.IsList l its ∨ s.heap.IsTuple l its) (ts : StrsAre its.toList xs) (sm : its.size + 1 < scanBound)
    (q : ∀ h' tk, HasT prog w h' s.heap.objs.size xs its.size → (∀ b o, s.heap.get? b = some o → h'.get? b = some o) → Q (.ref s.heap.objs.size) { s with heap := h', toks := tk }) : wpAny (model prog w) A (call (.type "set") [.ref l]) Q E s := by
  obtain ⟨c, tl, mro⟩ := PySem.F.called_set.mro
  have f1 := PySem.F.called_set.made
  have f2 := PySem.F.called_set.sub
  have f3 := PySem.F.called_set.notType
  have f4 := PySem.F.called_set.canCreate
  have f5 := PySem.F.typeCall_set_1 (.ref l)
  refine wpAny_call (codeAny_of_tree ?_)
  show wpAny _ _ (callAny (.type "set") _) _ _ _
  refine wpAny_pure ⟨Code.quiet_builtin _ (by decide +kernel), codeAny_builtin PySem.F.entry_type_call ?_⟩
  rw [Around.under_plain (weight_type_call_type "set" [.ref l] []) rfl]
  repeat (any_goals (first | assumption | wp_step))
  refine codeAny_mono (code_set_new_1 (.ref l) (E := E) (Q₁ := fun v s1 => ∃ led, v = .ref s.heap.objs.size ∧ s1 = { s with heap := s.heap.push (set0 led) }) fun led => ⟨led, rfl, rfl⟩) fun r s1 hr => ?_
  rcases r with e | fl
  · exact hr
  cases fl <;> first | exact hr.elim | skip
  obtain ⟨led, rfl, rfl⟩ := hr
  have g0 : (s.heap.push (set0 led)).get? s.heap.objs.size = some (set0 led) := Heap.get?_push_size _ rfl
  have ty : Shared.TypeIs { s with heap := s.heap.push (set0 led) } (.ref s.heap.objs.size) "set" := ⟨_, g0, rfl⟩
  have i1 := PySem.F.called_set.init.lookup
  have i2 := PySem.F.called_set.init.bind (.ref s.heap.objs.size)
  have la : ∀ b o, s.heap.get? b = some o → b ≠ s.heap.objs.size := fun b o z => Nat.ne_of_lt (Heap.lt_size z)
  have src2 : (s.heap.push (set0 led)).IsList l its ∨ (s.heap.push (set0 led)).IsTuple l its := src.imp (·.push _) (·.push _)
  repeat (any_goals (first | assumption | wp_step))
  refine codeAny_mono (codeAny_call_builtin (R := wants (fun v s2 => v = .none ∧ ∃ h' tk, s2 = { s with heap := h', toks := tk } ∧ HasT prog w h' s.heap.objs.size xs its.size ∧ ∀ b o, s.heap.get? b = some o → h'.get? b = some o) E)
    PySem.F.called_set.init.plain PySem.F.entry_set_init (check_set_init_1 ty ?_)) fun r2 s2 hr2 => ?_
  · unfold Builtin.«set.__init__» noKeywords Builtin.Frozenset.updateFrom
    generalize hz : pyIter = Z
    have h2 : A.in1.in1.handled = none := by simpa using hh
    have fin : wpAny (model prog w) A.in1.in1 (pyIter (.ref l)) (fun it s1 => wpAny (model prog w) A.in1.in1 (runValue (.builtin "set.update.loop" ⟨[.ref s.heap.objs.size, it], []⟩)) (fun v s2 => v = .none ∧ ∃ h' tk, s2 = { s with heap := h', toks := tk } ∧ HasT prog w h' s.heap.objs.size xs its.size ∧ ∀ b o, s.heap.get? b = some o → h'.get? b = some o) E s1) E { s with heap := s.heap.push (set0 led) } :=
      iter_fill (led := led) h2 src2 ts sm g0 fun h' tk t k => ⟨rfl, h', tk, rfl, t, fun b o z => k b o (la b o z) (Heap.get?_push_of_some _ z)⟩
    rw [hz] at fin
    have kind : ∃ (T : String) (od : Option Addr) (n : Nat) (oz : Array (Option Value)), (s.heap.push (set0 led)).get? l = some ⟨.type T, od, .seq its n, oz⟩ ∧ isSubtype (.type T) (.type "set") = pure false ∧ isSubtype (.type T) (.type "frozenset") = pure false ∧ (Value.type T == Value.type "dict") = false := by
      rcases src2 with ⟨⟨oc, od, ot, oz⟩, g, c, n, e⟩ | ⟨⟨oc, od, ot, oz⟩, g, c, n, e⟩ <;> (simp only at c e; subst c; subst e)
      · exact ⟨_, _, _, _, g, PySem.F.sub_list_set, PySem.F.sub_list_frozenset, by decide⟩
      · exact ⟨_, _, _, _, g, PySem.F.sub_tuple_set, PySem.F.sub_tuple_frozenset, by decide⟩
    obtain ⟨T, od, n, oz, g, b1, b2, b3⟩ := kind
    clear src src2
    wp_walk
    refine wpAny_mono fin (fun it s1 k => wpAny_bind (wpAny_mono k (fun v s2 z => ?_) fun _ _ z => z)) fun _ _ z => z
    obtain ⟨rfl, z⟩ := z
    exact wpAny_pure (wpAny_pure ⟨rfl, z⟩)
  · rcases r2 with e | fl
    · exact hr2
    cases fl <;> first | exact hr2.elim | skip
    obtain ⟨rfl, h', tk, rfl, t, k⟩ := hr2
    repeat (any_goals (first | assumption | wp_step))
    exact q _ _ t k
end
theorem strs_of : ∀ {xs : List Str} {us : List Value}, Vals (xs.map V.str) us → StrsAre us xs
  | [], _, .nil => .nil
  | y :: _, _, .cons ⟨t, e⟩ r => e ▸ .cons y t (strs_of r)
def tLenS (K : PySem.W.Frag) (ta : TE) : TE := fun σ H Q => ta σ H fun x H1 => ∃ (l : Addr) (xs : List Str), x = .ref l ∧ (SqL K H1 l (xs.map V.str) ∨ SqT K H1 l (xs.map V.str)) ∧ xs.length + 1 < scanBound ∧ Q (.int (unl xs xs.length : Nat)) H1
theorem pe_lenS {X : Cx} {e : Expr} {te : TE} {n1 n2 c1 c2 : Pos} (g1 : Gl X "len") (m1 : X.mg "len" = none) (g2 : Gl X "set") (m2 : X.mg "set" = none) (he : PE X e te) (hc : X.calm = true := by rfl)
    (hs : starEach [e] X.env = (false, eval e X.env) :: starEach [] X.env := by rfl) : PE X (.Call (.Name "len" n1) [.Call (.Name "set" n2) [e] [] c2] [] c1) (tLenS X.K te) := by
  refine ⟨fun pins s σ H Q I h => Call_ (ld_blt I g1 m1 boot_len ?_)⟩
  refine callWith_builtin1 (args_cons ?_ rfl) rfl rfl
  refine Call_ (ld_blt I g2 m2 boot_set ?_)
  refine callWith_type1 (args_cons (thn (he.run pins s σ H _ I h) fun v s1 ⟨x, H1, I1, r1, q1⟩ => args_nil ?_) hs) hs rfl
  obtain ⟨l, xs, rfl, hq, small, q1⟩ := q1
  cases r1
  have src : ∃ its : List Value, Vals (xs.map V.str) its ∧ (s1.heap.IsList l its.toArray ∨ s1.heap.IsTuple l its.toArray) := by
    rcases hq with hq | hq
    · obtain ⟨its, r, pl, _⟩ := I1.list hq
      exact ⟨its, r, .inl pl.isList⟩
    · obtain ⟨its, r, pl, _⟩ := I1.tuple hq
      exact ⟨its, r, .inr pl⟩
  obtain ⟨its, r, src⟩ := src
  have len : its.toArray.size = xs.length := by rw [List.size_toArray, ← r.length, List.length_map]
  refine set_made (I1.ok.hd hc) src (by simpa using strs_of r) (by rw [len]; exact small) fun h' tk t k => args_nil ?_
  rw [len] at t
  obtain ⟨o, es, ep, tb, ho, ex, hd, _, _, _, ft, hn⟩ := t
  have I2 : Inv X pins σ H1 { s1 with heap := h', toks := tk } := I1.kept k
  have b := unl_le (xs := xs) xs.length
  have big : scanBound < 2 ^ 62 := by decide
  exact call_len_set ho ex hd ft (by rw [hn]; omega) ⟨.int (unl xs xs.length : Nat), H1, I2.tok _, ⟨_, by rw [hn]⟩, q1⟩
theorem ve_lenS {c : Ctx} {ρ : Rho} {S : Sto} {F : D → Sto → Prop} {te : TE} (h : VE c te ρ S fun x S1 => ∃ xs : List Str, IsQ S1 x (xs.map D.str) ∧ xs.length ≤ 1000 ∧ F (.int (unl xs xs.length : Nat)) S1) : VE c (tLenS c.K te) ρ S F := fun T σ H I Q k =>
  h T σ H I _ fun v x S1 T1 H1 m1 c1 r1 ⟨xs, q, small, f⟩ => by
    obtain ⟨a, vs, rfl, s, r⟩ := q.rd c1 r1
    have e := r.strs
    subst e
    have big : 2000 < scanBound := by decide
    exact ⟨a, xs, rfl, s, by omega, k _ _ S1 T1 H1 m1 c1 (.int _) f⟩
theorem unl_nodup {xs : List Str} (h : xs.Nodup) : ∀ i, i ≤ xs.length → unl xs i = i
  | 0, _ => rfl
  | i + 1, hi => by
    have ih := unl_nodup h i (by omega)
    unfold unl
    rw [ih]
    have no : ((xs.take i).any (· == xs.getD i Str.empty)) = false := by
      rw [Bool.eq_false_iff]
      intro z
      obtain ⟨y, hy, ey⟩ := List.any_eq_true.mp z
      rw [getD_at hi] at ey
      obtain ⟨j, hj, e⟩ := List.mem_take_iff_getElem.mp hy
      have e2 : xs[j] = xs[i] := e.trans (eq_of_beq ey)
      exact List.pairwise_iff_getElem.mp h j i (by omega) hi (by omega) e2
    rw [no]
    rfl
end VS
namespace VS
open PySem L2 PySem.Spec PyProof.Rows
/-! ### min of three, min of a list, list.insert, what is never reached -/
def tNevS : TS := fun _ _ _ => False
theorem ps_nev {X : Cx} {st : Stmt} : PS X st tNevS := ⟨fun _ _ _ _ _ _ h => h.elim⟩
section
variable {c : Ctx} {ρ : Rho} {S : Sto} {F : D → Sto → Prop}
/-- the least one of a list -/
def minL : List Int → Int
  | [] => 0
  | [a] => a
  | a :: b :: r => min a (minL (b :: r))
theorem minL_le : ∀ {l : List Int} {y : Int}, y ∈ l → minL l ≤ y
  | [a], y, h => by rw [List.mem_singleton.mp h]; exact Int.le_refl _
  | a :: b :: r, y, h => by
    have ih := @minL_le (b :: r)
    unfold minL
    rcases List.mem_cons.mp h with rfl | h
    · omega
    · have := ih h; omega
theorem minL_mem : ∀ {l : List Int}, l ≠ [] → minL l ∈ l
  | [a], _ => .head _
  | a :: b :: r, _ => by
    have ih := @minL_mem (b :: r) (by simp)
    unfold minL
    by_cases e : a ≤ minL (b :: r)
    · rw [Int.min_eq_left e]; exact .head _
    · rw [Int.min_eq_right (by omega)]; exact .tail _ ih
theorem rc_minL {ns : List Int} {x : D} (h : IsL S x (ns.map D.int)) (ne : ns ≠ []) (q : F (.int (minL ns)) S) : RC c (rMin c.K) [x] S F := fun T us H cl r Q k => by
  cases r with
  | cons h1 t =>
    cases t
    obtain ⟨a, xs, rfl, s, r⟩ := h.rd cl h1
    have e := r.ints
    subst e
    refine ⟨a, ns, rfl, s, List.length_pos_iff.mpr ne, fun m hm hle => ?_⟩
    have e : m = minL ns := by
      have h1 := hle _ (minL_mem ne)
      have h2 := minL_le hm
      omega
    rw [e]
    exact k _ _ S T H Mv.refl cl (.int _) q
def rInsert : V → List V → Hp → VK → Prop := fun x vs H Q => ∃ (l : Addr) (xs : List V) (i : Int) (y : V), x = .ref l ∧ vs = [.int i, y] ∧ H l = some (.lst xs) ∧ xs.length < sizeLine ∧ 0 ≤ i ∧ i < 2 ^ 63 ∧ Q .non (upd H l (.lst (xs.take i.toNat ++ [y] ++ xs.drop i.toNat)))
theorem mt_insertV {X : Cx} : MtR X "list.insert" rInsert := L2.mt_insert
theorem rm_insert {l : Addr} {ds : List D} {x : D} {i : Int} {n : Nat} (h : S l = some (.lst ds)) (hi : i = (n : Int)) (hn : n ≤ ds.length) (hl : ds.length < sizeLine) (q : F .non (put S l (.lst (ds.take n ++ [x] ++ ds.drop n)))) : RM c rInsert (.ref l) [.int i, x] S F := fun T u us H cl r1 r2 Q k => by
  subst hi
  cases r1
  cases r2 with
  | cons h0 t =>
    cases t with
    | cons h1 t =>
      cases t
      cases h0
      obtain ⟨xs, hx, r⟩ := cl.ok _ _ (cl.at h)
      have big : sizeLine < 2 ^ 62 := by decide
      refine ⟨l, xs, n, _, rfl, rfl, hx, by rw [r.length]; exact hl, by omega, by omega, ?_⟩
      rw [show ((n : Int)).toNat = n from rfl]
      exact k _ _ _ _ _ (mv_wr (cl.at h)) (cl.wr (cl.at h) (cell_l upd_same ((((r.take n).append (.cons h1 .nil)).append (r.drop n)).mv (mv_wr (cl.at h))))) .non q
end
end VS
namespace VS
open PySem L2 C8 PySem.Spec PyProof.Rows
/-! ### a module's constant that lies in the heap -/
def tKd (a : Addr) : TE := tC (.ref a)
theorem pe_kd {X : Cx} {x : Str} {pos : Pos} {a : Addr} (hg : Gl X x) (h : ∃ u, X.mg x = some u ∧ RelV (.ref a) u) (hd : (x == ("__debug__" : Str)) = false := by decide) : PE X (.Name x pos) (tKd a) := pe_gc hg h hd
theorem ve_kd {c : Ctx} {ρ : Rho} {S : Sto} {F : D → Sto → Prop} {a : Addr} {d : D} (r : ∀ H S, Rep c.K H S (.ref a) d) (q : F d S) : VE c (tKd a) ρ S F := ve_wr (r · ·) q
theorem isPL_strs : ∀ ms : List Str, isPL (ms.map D.str) = true
  | [] => rfl
  | m :: ms => by
    show (true && isPL (ms.map D.str)) = true
    rw [isPL_strs ms]
    rfl
theorem isP_strs (ms : List Str) : isP (.lst (ms.map D.str)) = true := isPL_strs ms
theorem isP_strsT (ms : List Str) : isP (.tup (ms.map D.str)) = true := isPL_strs ms
end VS
namespace VS
open PySem L2 PySem.Spec PyProof.Rows
section
variable {c : Ctx} {ρ : Rho} {S : Sto} {F : D → Sto → Prop}
/-- [e for x in xs if t], each by itself -/
theorem ve_lcF (p : D → Bool) (f : D → D) {wi : TI} {g : TG} {tt : TT} {te : TE} {vs : List Nat}
    (h : VI c wi ρ S fun ds S1 => ds.length ≤ 100000 ∧ (∀ d ∈ ds, VGw c vs g d (wipeR ρ vs) S1 fun ρ3 S3 => VT c tt ρ3 S3 fun b S4 => b = p d ∧ (p d = false → S4 = S1) ∧ (p d = true → VE c te ρ3 S4 fun y S5 => y = f d ∧ S5 = S1)) ∧ F (.lst ((ds.filter p).map f)) S1) : VE c (tLc wi g tt te vs) ρ S F := by
  refine ve_lc (fun T σ H I R k => h T σ H I R fun J ds S1 T1 H1 m1 c1 w ⟨h1, h2, h3⟩ => k J ds S1 T1 H1 m1 c1 w ⟨h1, fun i acc S2 => acc = ((ds.take i).filter p).map f ∧ S2 = S1, ⟨rfl, rfl⟩, ?_, ?_⟩)
  · rintro i d acc S2 hd ⟨e1, rfl⟩ hl T0 u0 σ0 H0 I0 r0 Q0 k0
    refine h2 d (List.mem_of_getElem? hd) T0 u0 σ0 H0 I0 r0 Q0 fun σ' ρ' S' T' H' hw m I' q => k0 σ' ρ' S' T' H' hw m I' ?_
    have tk : ds.take (i + 1) = ds.take i ++ [d] := by rw [List.take_succ, hd]; rfl
    refine q.imp fun b S4 ⟨hb, hf, hv⟩ => ?_
    subst hb
    refine ⟨fun z => (hv z).imp fun y S5 ⟨e2, e3⟩ => ⟨?_, e3⟩, fun z => ⟨?_, hf z⟩⟩
    · rw [tk, e1, e2, List.filter_append, List.map_append, List.filter_cons, if_pos z]
      rfl
    · rw [tk, e1, List.filter_append, List.map_append, List.filter_cons, if_neg (by rw [z]; decide)]
      simp
  · rintro acc S2 ⟨e1, rfl⟩ _
    rw [List.take_length] at e1
    rw [e1]
    exact h3
end
end VS
namespace VS
open PySem L2 PySem.Spec PyProof.Rows
section
variable {c : Ctx} {ρ : Rho} {S : Sto} {F : D → Sto → Prop}
/-- .. the list by reference -/
theorem ve_lccM (f : D → D) {wi : TI} {g : TG} {tt : TT} {te : TE} {vs : List Nat}
    (h : VI c wi ρ S fun ds S1 => ds.length ≤ 100000 ∧ (∀ d ∈ ds, VGw c vs g d (wipeR ρ vs) S1 fun ρ3 S3 => VT c tt ρ3 S3 fun b S4 => b = true ∧ VE c te ρ3 S4 fun y S5 => y = f d ∧ S5 = S1) ∧ ∀ l, S1 l = none → F (.ref l) (put S1 l (.lst (ds.map f)))) : VE c (tLc wi g tt te vs) ρ S F := by
  refine ve_lcc (fun T σ H I R k => h T σ H I R fun J ds S1 T1 H1 m1 c1 w ⟨h1, h2, h3⟩ => k J ds S1 T1 H1 m1 c1 w ⟨h1, fun i acc S2 => acc = (ds.take i).map f ∧ S2 = S1, ⟨rfl, rfl⟩, ?_, ?_⟩)
  · rintro i d acc S2 hd ⟨e1, rfl⟩ hl T0 u0 σ0 H0 I0 r0 Q0 k0
    refine h2 d (List.mem_of_getElem? hd) T0 u0 σ0 H0 I0 r0 Q0 fun σ' ρ' S' T' H' hw m I' q => k0 σ' ρ' S' T' H' hw m I' ?_
    refine q.imp fun b S4 ⟨hb, hv⟩ => ?_
    subst hb
    refine ⟨fun _ => hv.imp fun y S5 ⟨e2, e3⟩ => ⟨?_, e3⟩, fun z => by cases z⟩
    rw [List.take_succ, hd, e1, e2, List.map_append] <;> rfl
  · rintro acc S2 ⟨e1, rfl⟩ _ l hl
    rw [List.take_length] at e1
    rw [e1]
    exact h3 l hl
end
end VS
namespace VS
open PySem L2 PySem.Spec PyProof.Rows
section
variable {c : Ctx} {ρ : Rho} {S : Sto} {F : D → Sto → Prop}
/-- [e for x in xs]: Q holds of each element, J of the store -/
theorem ve_lcJ (Q : D → Prop) (J : Nat → Sto → Prop) {wi : TI} {g : TG} {tt : TT} {te : TE} {vs : List Nat}
    (h : VI c wi ρ S fun ds S1 => ds.length ≤ 100000 ∧ J 0 S1 ∧ (∀ (i : Nat) (d : D) S2, ds[i]? = some d → J i S2 → VGw c vs g d (wipeR ρ vs) S2 fun ρ3 S3 => VT c tt ρ3 S3 fun b S4 => b = true ∧ VE c te ρ3 S4 fun y S5 => Q y ∧ J (i + 1) S5) ∧
      ∀ acc S2, acc.length = ds.length → (∀ y ∈ acc, Q y) → J ds.length S2 → F (.lst acc) S2) : VE c (tLc wi g tt te vs) ρ S F := by
  refine ve_lc (fun T σ H I R k => h T σ H I R fun J1 ds S1 T1 H1 m1 c1 w ⟨h1, h0, h2, h3⟩ => k J1 ds S1 T1 H1 m1 c1 w ⟨h1, fun i acc S2 => acc.length = i ∧ (∀ y ∈ acc, Q y) ∧ J i S2, ⟨rfl, nofun, h0⟩, ?_, ?_⟩)
  · rintro i d acc S2 hd ⟨e1, e2, e3⟩ hl T0 u0 σ0 H0 I0 r0 Q0 k0
    refine h2 i d S2 hd e3 T0 u0 σ0 H0 I0 r0 Q0 fun σ' ρ' S' T' H' hw m I' q => k0 σ' ρ' S' T' H' hw m I' ?_
    refine q.imp fun b S4 ⟨hb, hv⟩ => ?_
    subst hb
    refine ⟨fun _ => hv.imp fun y S5 ⟨f2, f3⟩ => ⟨by rw [List.length_append, e1]; rfl, fun y' hy => (List.mem_append.mp hy).elim (e2 y') fun z => by rw [List.mem_singleton.mp z]; exact f2, f3⟩, fun z => by cases z⟩
  · rintro acc S2 ⟨e1, e2, e3⟩ _
    exact h3 acc S2 e1 e2 e3
end
theorem strs_all {Q : Str → Prop} : ∀ {xs : List D}, (∀ y ∈ xs, ∃ z, y = .str z ∧ Q z) → ∃ zs : List Str, xs = zs.map D.str ∧ ∀ z ∈ zs, Q z
  | [], _ => ⟨[], rfl, nofun⟩
  | x :: xs, h => by
    obtain ⟨z, rfl, q⟩ := h x (.head _)
    obtain ⟨zs, rfl, r⟩ := strs_all fun y hy => h y (.tail _ hy)
    exact ⟨z :: zs, rfl, fun y hy => (List.mem_cons.mp hy).elim (fun e => by rw [e]; exact q) (r y)⟩
end VS
namespace VS
open PySem L2 PySem.Spec PyProof.Rows
end VS
namespace VS
open PySem L2 C8 PySem.Spec PyProof.Rows
/-! ### x in [..] with own == -/
inductive FlK : D → String → Prop
  | non : FlK .non "NoneType" | bl (b : Bool) : FlK (.bl b) "bool" | int (i : Int) : FlK (.int i) "int" | str (z : Str) : FlK (.str z) "str"
theorem FlK.ty {S : Sto} {d : D} {n : String} (h : FlK d n) : TyS S d n := by
  cases h with
  | non => exact .non
  | bl b => exact .bl b
  | int i => exact .int i
  | str z => exact .str z
end VS
namespace VS
open PySem L2 C8 PySem.Spec PyProof.Rows
/-! ### bool of a truth; one operator, two readings -/
end VS
namespace VS
open PySem L2 PySem.Spec PyProof.Rows
/-! ### .. the list told by an expression -/
section
variable {c : Ctx} {ρ : Rho} {S : Sto} {F : D → Sto → Prop}
theorem ve_lcCellE {g : TG} {tt : TT} {te : TE} {vs : List Nat} {ti : TE} {l : Addr} {ds : List D} (hv : VE c ti ρ (VS.del S l) fun x S1 => x = .ref l ∧ S1 = VS.del S l) (hl : S l = some (.lst ds)) (hz : ds.length ≤ 100000) (W : Nat → List D → Sto → Prop) (h0 : W 0 [] (VS.del S l))
    (hs : ∀ (i : Nat) (d : D) acc S2, ds[i]? = some d → W i acc S2 → acc.length ≤ i → VGw c vs g d (wipeR ρ vs) S2 fun ρ3 S3 => VT c tt ρ3 S3 fun b S4 => (b = true → VE c te ρ3 S4 fun y S5 => W (i + 1) (acc ++ [y]) S5) ∧ (b = false → W (i + 1) acc S4))
    (hd : ∀ acc S2, W ds.length acc S2 → acc.length ≤ ds.length → F (.lst acc) (put S2 l (.lst ds))) : VE c (tLc (iList c.K ti) g tt te vs) ρ S F := fun T σ H I Q k => by
  have ht := I.cells.at hl
  obtain ⟨xs, hx, r⟩ := I.cells.ok _ _ ht
  have m0 : Mv T H (put T l .hid) H := mv_hide ht (by nofun)
  have c0 := I.cells.hide hl hx
  have I0 : In c σ H ρ (VS.del S l) (put T l .hid) := I.mv m0 c0
  refine lc_heartAt (R := fun acc S2 => F (.lst acc) (put S2 l (.lst ds))) (fun R kR => ?_) I0 fun p ys acc S' T' H' T1 H1 m1 m cl s n hp rr q => ?_
  · refine hv _ σ H I0 _ fun vx x S1 T1 H1 m1 c1 r1 ⟨e1, e2⟩ => ?_
    subst e1 e2
    cases r1
    obtain ⟨hx1, s1⟩ := m1.hid l _ put_same hx
    have rx : RepL c.K H1 T1 xs ds := (r.mk m0.toMk).mv m1
    have hq : ∀ T2 H2, Mv T1 H1 T2 H2 → SqL c.K H2 l xs := fun T2 H2 m2 => .inl (.inl (m2.hid l _ s1 hx1).1)
    exact ⟨l, rfl, ⟨xs, .inl (.inl hx1)⟩, kR _ ds _ T1 H1 m1 c1 (yl_list hq rx) ⟨hz, W, h0, hs, hd⟩⟩
  · have mm := m1.trans m
    obtain ⟨hx', s'⟩ := mm.hid l _ put_same hx
    obtain ⟨hx1, _⟩ := m1.hid l _ put_same hx
    have npl : l ≠ p := fun z => by subst z; rw [n] at hx1; cases hx1
    have rx : RepL c.K H' T' xs ds := (r.mk m0.toMk).mv mm
    have s2 : (VS.del T' p) l = some .hid := by rw [VS.del_ne npl]; exact s'
    have c2 := (cl.unhid s).show s2 hx' (rx.mk (mk_show s))
    have mk2 : Mk (VS.del T' p) H' (put (VS.del T' p) l (.lst ds)) H' := by
      refine ⟨fun _ _ _ h => h, fun a u1 _ => ?_⟩
      have nal : a ≠ l := fun z => by rw [z, s2] at u1; cases u1
      rw [put_ne nal]
      exact u1
    have m3 : Mv T H (put (VS.del T' p) l (.lst ds)) H' := by
      have ma := m0.trans mm
      refine ⟨⟨ma.keep, fun a u e => ?_⟩, fun a o u e => ?_⟩
      · have nal : a ≠ l := fun z => by subst z; rw [ht] at u; cases u
        rw [put_ne nal]
        unfold VS.del
        split
        · rfl
        · exact ma.fresh a u e
      · obtain ⟨e1, e2⟩ := ma.hid a o u e
        refine ⟨e1, ?_⟩
        have nal : a ≠ l := fun z => by subst z; rw [ht] at u; cases u
        have nap : a ≠ p := fun z => by
          subst z
          obtain ⟨e3, _⟩ := (m0.trans m1).hid a o u e
          rw [n] at e3; cases e3
        rw [put_ne nal, VS.del_ne nap]
        exact e2
    exact k _ (.lst acc) _ _ H' m3 c2 (.lst (by rw [put_ne (Ne.symm npl)]; exact del_same) hp ((rr.mk (mk_show s)).mk mk2)) q
theorem put_back {l : Addr} {d : D} (h : S l = some d) : put (VS.del S l) l d = S := by
  funext b
  by_cases e : b = l
  · subst e; rw [put_same, h]
  · rw [put_ne e, VS.del_ne e]
end
end VS
namespace VS
open PySem L2 PySem.Spec PyProof.Rows
/-! ### xs[::-1] -/
theorem RepL.rev {K : PySem.W.Frag} {H : Hp} {S : Sto} : ∀ {xs : List V} {ds : List D}, RepL K H S xs ds → RepL K H S xs.reverse ds.reverse
  | _, _, .nil => .nil
  | _, _, .cons h t => by
    rw [List.reverse_cons, List.reverse_cons]
    exact t.rev.append (.cons h .nil)
section
variable {c : Ctx} {ρ : Rho} {S : Sto} {F : D → Sto → Prop}
theorem ve_revL {te : TE} (h : VE c te ρ S fun x S1 => ∃ ds, IsL S1 x ds ∧ F (.lst ds.reverse) S1) : VE c (tRevL c.K te) ρ S F := fun T σ H I Q k =>
  h T σ H I _ fun vx x S1 T1 H1 m1 c1 r1 ⟨ds, hx, q⟩ => by
    obtain ⟨a, xs, rfl, s, r⟩ := hx.rd c1 r1
    exact ⟨a, xs, rfl, s, fun p hp => k _ _ S1 T1 _ (m1.trans (mv_new hp)) (c1.new hp) (.lst (c1.free hp) upd_same (r.rev.mv (mv_new hp))) q⟩
theorem ve_revLc {te : TE} (h : VE c te ρ S fun x S1 => ∃ ds, IsL S1 x ds ∧ ∀ p, S1 p = none → F (.ref p) (put S1 p (.lst ds.reverse))) : VE c (tRevL c.K te) ρ S F := fun T σ H I Q k =>
  h T σ H I _ fun vx x S1 T1 H1 m1 c1 r1 ⟨ds, hx, q⟩ => by
    obtain ⟨a, xs, rfl, s, r⟩ := hx.rd c1 r1
    exact ⟨a, xs, rfl, s, fun p hp => k _ _ _ _ _ (m1.trans (mv_newc hp)) (c1.newc hp (cell_l upd_same (r.rev.mv (mv_newc hp)))) (.ref p) (q p (c1.freeS hp))⟩
end
end VS
namespace VS
open PySem L2 PySem.Spec PyProof.Rows
theorem kit_two {K : PySem.W.Frag} {t a b : Value} (h1 : PySem.W.kitOne K t a = some false) (h2 : PySem.W.kitOne K t b = some false) : PySem.W.kitAny K t [a, b] = some false := by
  unfold PySem.W.kitAny
  rw [h1]
  unfold PySem.W.kitAny
  rw [h2]
  rfl
end VS
namespace VS
open PySem L2
/-! ### what was known stays known where nothing is lost -/
section
variable {S S' : Sto}
theorem TyS.ext {d : D} {n : String} (h : TyS S d n) (x : Ext S S') : TyS S' d n := by
  cases h with
  | cl h => exact .cl (x _ _ h)
  | cd h => exact .cd (x _ _ h)
  | non => exact .non
  | bl b => exact .bl b
  | int i => exact .int i
  | str z => exact .str z
  | rol ds => exact .rol ds
  | lst ds => exact .lst ds
  | tup ds => exact .tup ds
  | dK ds => exact .dK ds
theorem IsI.ext {d : D} {C : Addr} {fs : List (Str × D)} (h : IsI S d C fs) (x : Ext S S') : IsI S' d C fs := by
  cases h with
  | v => exact .v
  | c h => exact .c (x _ _ h)
theorem OfC.ext {K : PySem.W.Frag} {d : D} {t : Value} (h : OfC K S d t) (x : Ext S S') : OfC K S' d t := by
  cases h with
  | p h => exact .p (h.ext x)
  | i h c => exact .i (h.ext x) c
  | e T => exact .e T
theorem Da.ext {d d' : D} (h : Da S d d') (x : Ext S S') : Da S' d d' := by
  cases h with
  | v p => exact .v p
  | c h p => exact .c (x _ _ h) p
  | k h p => exact .k (x _ _ h) p
theorem DaL.ext (x : Ext S S') : ∀ {ds es : List D}, DaL S ds es → DaL S' ds es
  | _, _, .nil => .nil
  | _, _, .cons h r => .cons (h.ext x) (r.ext x)
theorem Vw.ext {d d' : D} (h : Vw S d d') (x : Ext S S') : Vw S' d d' := by
  cases h with
  | v => exact .v
  | c h n => exact .c (x _ _ h) n
end
section
variable {c : Ctx} {ρ : Rho} {S : Sto} {F : D → Sto → Prop}
/-- a text and itself -/
theorem rv_neSame {z : Str} (q : F (.bl false) S) : RV c rNe (.str z) (.str z) S F := rv_ne (b := true) (by show some (decide (z = z)) = some true; rw [decide_eq_true rfl]) q
end
end VS
namespace VS
open PySem L2 C8 PySem.Spec PyProof.Rows
/-! ### a walk over a list known by reference: it is hidden meanwhile -/
section
variable {c : Ctx} {ρ : Rho} {S : Sto}
theorem mk_back {T : Sto} {H : Hp} {l : Addr} {d : D} (s : T l = some .hid) : Mk T H (put T l d) H := by
  refine ⟨fun _ _ _ h => h, fun a u1 _ => ?_⟩
  have nal : a ≠ l := fun z => by rw [z, s] at u1; cases u1
  rw [put_ne nal]
  exact u1
theorem mv_back {T T' : Sto} {H H' : Hp} {l : Addr} {d e : D} (ht : T l = some e) (ne : e ≠ .hid) (m : Mv (put T l .hid) H T' H') : Mv T H (put T' l d) H' := by
  have ma := (mv_hide (H := H) ht ne).trans m
  refine ⟨⟨ma.keep, fun a u e => ?_⟩, fun a o u e => ?_⟩
  · have nal : a ≠ l := fun z => by subst z; rw [ht] at u; cases u
    rw [put_ne nal]
    exact ma.fresh a u e
  · obtain ⟨e1, e2⟩ := ma.hid a o u e
    have nal : a ≠ l := fun z => by subst z; rw [ht] at u; cases u; exact ne rfl
    exact ⟨e1, by rw [put_ne nal]; exact e2⟩
/-- no exception leaves -/
abbrev Ctx.calm (c : Ctx) : Ctx := ⟨c.K, c.E, fun _ _ _ _ => False⟩
theorem vx_forCell {wi : TI} {g : TG} {tb : TS} {nx bk ct : Rho → Sto → Prop} {rt : D → Sto → Prop} {l : Addr} {ds es : List D} (hl : S l = some (.lst ds))
    (hw : ∀ T σ H xs, In c.calm σ H ρ (VS.del S l) T → T l = some .hid → H l = some (.lst xs) → RepL c.K H T xs ds → ∀ R : It → Hp → Prop, (∀ J T1 H1, Mv T H T1 H1 → Cells c.K H1 (VS.del S l) T1 → Yl c.K J es T1 H1 → R J H1) → wi σ H R)
    (W : Nat → Rho → Sto → Prop) (h0 : W 0 ρ (VS.del S l))
    (hs : ∀ (i : Nat) (d : D) ρ2 S2, es[i]? = some d → W i ρ2 S2 → VG c.calm g d ρ2 S2 fun ρ3 S3 => VX c.calm tb ρ3 S3 ⟨W (i + 1), fun d S4 => rt d (put S4 l (.lst ds)), fun ρ4 S4 => nx ρ4 (put S4 l (.lst ds)), W (i + 1)⟩)
    (hd : ∀ ρ2 S2, W es.length ρ2 S2 → nx ρ2 (put S2 l (.lst ds))) :
    VX c (tFor wi g tb) ρ S ⟨nx, rt, bk, ct⟩ := fun T σ H I D b => by
  have ht := I.cells.at hl
  obtain ⟨xs, hx, r⟩ := I.cells.ok _ _ ht
  have m0 : Mv T H (put T l .hid) H := mv_hide ht (by nofun)
  have c0 := I.cells.hide hl hx
  have I0 : In c.calm σ H ρ (VS.del S l) (put T l .hid) := ⟨c0, fun i d e => let ⟨v, h, r⟩ := I.slots i d e; ⟨v, h, r.mv m0⟩, I.len, fun _ _ _ _ _ _ _ _ _ _ _ _ z => z.elim⟩
  have r0 := r.mv m0
  -- back
  have bkI : ∀ {σ4 H4 ρ4 S4 T4}, Mv (put T l .hid) H T4 H4 → In c.calm σ4 H4 ρ4 S4 T4 → Mv T H (put T4 l (.lst ds)) H4 ∧ In c σ4 H4 ρ4 (put S4 l (.lst ds)) (put T4 l (.lst ds)) := by
    intro σ4 H4 ρ4 S4 T4 m4 I4
    obtain ⟨hx4, s4⟩ := m4.hid l _ put_same hx
    have m5 : Mv T H (put T4 l (.lst ds)) H4 := mv_back ht (by nofun) m4
    have cl := I4.cells.show s4 hx4 (r0.mv m4)
    exact ⟨m5, cl, fun i d e => let ⟨v, h, q⟩ := I4.slots i d e; ⟨v, h, Rep.mk (mk_back s4) q⟩, I4.len, fun σ2 ρ2 C d fs S2 T2 H2 m2 => I.exc σ2 ρ2 C d fs S2 T2 H2 (m5.trans m2)⟩
  have bkR : ∀ {v d H4 S4 T4}, Mv (put T l .hid) H T4 H4 → Cells c.K H4 S4 T4 → Rep c.K H4 T4 v d → Mv T H (put T4 l (.lst ds)) H4 ∧ Cells c.K H4 (put S4 l (.lst ds)) (put T4 l (.lst ds)) ∧ Rep c.K H4 (put T4 l (.lst ds)) v d := by
    intro v d H4 S4 T4 m4 cl4 q
    obtain ⟨hx4, s4⟩ := m4.hid l _ put_same hx
    exact ⟨mv_back ht (by nofun) m4, cl4.show s4 hx4 (r0.mv m4), Rep.mk (mk_back s4) q⟩
  refine hw _ σ H xs I0 put_same hx r0 _ fun J T1 H1 m1 c1 ⟨G, Y, w, hG, hY⟩ => ?_
  refine for_it w (fun i σ' H' => ∃ ρ2 S2 T2, Mv T1 H1 T2 H' ∧ In c.calm σ' H' ρ2 S2 T2 ∧ W i ρ2 S2) ⟨ρ, _, T1, Mv.refl, I0.mv m1 c1, h0⟩ (fun i σ' H' _ ⟨ρ2, S2, T2, m, _, _⟩ => hG T2 H' m) ?_ ?_
  · rintro i x σ' H' H'' hi ⟨ρ2, S2, T2, m, I2, hw2⟩ y
    obtain ⟨d, e⟩ : ∃ d, es[i]? = some d := ⟨es[i], List.getElem?_eq_getElem hi⟩
    obtain ⟨m3, c3, r3⟩ := hY i d S2 T2 H' H'' x e m I2.cells y
    refine hs i d ρ2 S2 e hw2 T2 x σ' H'' (I2.mv m3 c3) r3 _ fun σ3 ρ3 S3 T3 H3 m4 I3 q => ?_
    have mm := m.trans (m3.trans m4)
    have mb := m1.trans mm
    refine q T3 σ3 H3 I3 _ ⟨fun σ4 ρ4 S4 T4 H4 m5 I4 q4 => ⟨ρ4, S4, T4, mm.trans m5, I4, q4⟩, fun v d S4 T4 H4 m5 c4 r4 q4 => ?_, fun σ4 ρ4 S4 T4 H4 m5 I4 q4 => ?_, fun σ4 ρ4 S4 T4 H4 m5 I4 q4 => ⟨ρ4, S4, T4, mm.trans m5, I4, q4⟩⟩
    · obtain ⟨a1, a2, a3⟩ := bkR (mb.trans m5) c4 r4
      exact b.rt v d _ _ H4 a1 a2 a3 q4
    · obtain ⟨a1, a2⟩ := bkI (mb.trans m5) I4
      exact b.nx σ4 ρ4 _ _ H4 a1 a2 q4
  · rintro σ' H' ⟨ρ2, S2, T2, m, I2, hw2⟩
    obtain ⟨a1, a2⟩ := bkI (m1.trans m) I2
    exact b.nx σ' ρ2 _ _ H' a1 a2 (hd ρ2 S2 hw2)
/-- for i, x in enumerate(e), e a list known by reference -/
theorem vx_forCellE {te : TE} {g : TG} {tb : TS} {nx bk ct : Rho → Sto → Prop} {rt : D → Sto → Prop} {l : Addr} {ds : List D} (hl : S l = some (.lst ds))
    (he : VE c.calm te ρ (VS.del S l) fun x S1 => x = .ref l ∧ S1 = VS.del S l)
    (W : Nat → Rho → Sto → Prop) (h0 : W 0 ρ (VS.del S l))
    (hs : ∀ (i : Nat) (d : D) ρ2 S2, ds[i]? = some d → W i ρ2 S2 → VG c.calm g (.tup [.int (i : Nat), d]) ρ2 S2 fun ρ3 S3 => VX c.calm tb ρ3 S3 ⟨W (i + 1), fun d S4 => rt d (put S4 l (.lst ds)), fun ρ4 S4 => nx ρ4 (put S4 l (.lst ds)), W (i + 1)⟩)
    (hd : ∀ ρ2 S2, W ds.length ρ2 S2 → nx ρ2 (put S2 l (.lst ds))) :
    VX c (tFor (iEnum c.K (tCons te tNil)) g tb) ρ S ⟨nx, rt, bk, ct⟩ := by
  refine vx_forCell (es := enumD ds) hl (fun T σ H xs I s hx r R k => ?_) W h0 (fun i d ρ2 S2 hi hw => ?_) (by rw [enumD_len]; exact hd)
  · refine he T σ H I _ fun vx x S1 T1 H1 m1 c1 r1 ⟨e1, e2⟩ => ?_
    subst e1 e2
    cases r1
    obtain ⟨hx1, s1⟩ := m1.hid l _ s hx
    have hq : ∀ T2 H2, Mv T1 H1 T2 H2 → SqL c.K H2 l xs := fun T2 H2 m2 => .inl (.inl (m2.hid l _ s1 hx1).1)
    refine ⟨l, xs, rfl, hq _ _ Mv.refl, k _ T1 H1 m1 c1 ⟨fun H => SqL c.K H l xs, _, by rw [enumD_len, ← r.length]; exact walk_enum, hq, fun i d S2 T2 H2 H3 y e m cl yy => ?_⟩⟩
    obtain ⟨T, u, w, e1, hT, e2, e3, e4⟩ := yy
    obtain ⟨y', e5, e6⟩ := enumD_get e
    subst e1 e2 e6
    obtain ⟨v, e7, r'⟩ := (r.mv m1).get e5
    have e4' : xs[i]? = some w := e4
    rw [e4'] at e7
    cases e7
    cases e3
    exact ⟨mv_new hT, cl.new hT, .tup (cl.free hT) upd_same (.cons (.int _) (.cons ((r'.mv m).mv (mv_new hT)) .nil))⟩
  · obtain ⟨y, e5, rfl⟩ := enumD_get hi
    exact hs i y ρ2 S2 e5 hw
end
end VS
namespace VS
open PySem L2 C8 PySem.Spec PyProof.Rows
section
variable {c : Ctx} {ρ : Rho} {S : Sto}
/-- a statement, what is known behind it, and the rest: where ways meet -/
theorem vx_join {a b : TS} {nx bk ct : Rho → Sto → Prop} {rt : D → Sto → Prop} (W : Rho → Sto → Prop) (h1 : VX c a ρ S ⟨W, rt, bk, ct⟩) (h2 : ∀ ρ' S', W ρ' S' → VX c b ρ' S' ⟨nx, rt, bk, ct⟩) : VX c (tSeq a b) ρ S ⟨nx, rt, bk, ct⟩ :=
  vx_seq (fun T σ H I D k => h1 T σ H I D ⟨fun σ' ρ' S' T' H' m I' q => k.nx σ' ρ' S' T' H' m I' (h2 ρ' S' q), k.rt, k.bk, k.ct⟩)
/-- an if: the test's ways meet -/
theorem vx_ifJ {tc : TT} {t u : TS} {P : Po} (J : Bool → Sto → Prop) (hc : VT c tc ρ S J) (h1 : ∀ S1, J true S1 → VX c t ρ S1 P) (h2 : ∀ S1, J false S1 → VX c u ρ S1 P) : VX c (tIfS tc t u) ρ S P :=
  vx_if (hc.imp fun b S1 j => ⟨fun e => h1 _ (by rw [← e]; exact j), fun e => h2 _ (by rw [← e]; exact j)⟩)
/-- x += e, whole numbers -/
theorem vx_augI {i : Nat} {te : TE} {f : Int → Int → Int} {a : Int} {nx bk ct : Rho → Sto → Prop} {rt : D → Sto → Prop} (hv : ρ[i]? = some (some (.int a))) (h : VE c te ρ S fun y S1 => ∃ b, y = .int b ∧ nx (ρ.set i (some (.int (f a b)))) S1) : VX c (tAug i te (ipI f)) ρ S ⟨nx, rt, bk, ct⟩ := fun T σ H I D bh => by
  obtain ⟨v, hs, r⟩ := I.slots i _ hv
  cases r
  refine ⟨.int a, hs, h T σ H I _ fun v y S1 T1 H1 m1 c1 r1 ⟨b, e, q⟩ => ?_⟩
  subst e
  cases r1
  exact ⟨a, b, rfl, rfl, bh.nx _ _ _ _ _ m1 ((I.mv m1 c1).set i (.int _)) q⟩
end
end VS
namespace VS
open PySem L2 C8 PySem.Spec PyProof.Rows
/-! ### min and max of a tuple of whole numbers -/
def rMinT (K : PySem.W.Frag) : List V → Hp → VK → Prop := fun vs H Q => ∃ (a : Addr) (ns : List Int), vs = [V.ref a] ∧ SqT K H a (ns.map V.int) ∧ ns ≠ [] ∧ ∀ m, m ∈ ns → (∀ y, y ∈ ns → m ≤ y) → Q (.int m) H
def rMaxT (K : PySem.W.Frag) : List V → Hp → VK → Prop := fun vs H Q => ∃ (a : Addr) (ns : List Int), vs = [V.ref a] ∧ SqT K H a (ns.map V.int) ∧ ns ≠ [] ∧ ∀ m, m ∈ ns → (∀ y, y ∈ ns → y ≤ m) → Q (.int m) H
theorem ints_hold {h : Heap} : ∀ {its : List Value} {ns : List Int}, IntsAre its ns → PySem.W.HoldAll h its ns
  | _, _, .nil => ⟨_, .nil⟩
  | _, _, .cons _ _ r => by
    obtain ⟨as, x⟩ := ints_hold (h := h) r
    exact ⟨_, .cons (.int _ _) x⟩
theorem minOf_le : ∀ (xs : List Int) (x : Int), PySem.W.minOf x xs ∈ x :: xs ∧ ∀ y ∈ x :: xs, PySem.W.minOf x xs ≤ y
  | [], x => ⟨List.mem_cons_self .., fun y hy => by rw [List.mem_singleton.mp hy]; exact Int.le_refl _⟩
  | z :: zs, x => by
    have e : PySem.W.minOf x (z :: zs) = PySem.W.minOf (if z < x then z else x) zs := by
      show PySem.W.minOf (if decide (z < x) = true then z else x) zs = _
      simp only [decide_eq_true_eq]
    rw [e]
    obtain ⟨h1, h2⟩ := minOf_le zs (if z < x then z else x)
    have h3 := h2 _ (List.mem_cons_self ..)
    refine ⟨?_, fun y hy => ?_⟩
    · rcases List.mem_cons.mp h1 with h1 | h1
      · rw [h1]
        split
        · exact .tail _ (.head _)
        · exact .head _
      · exact .tail _ (.tail _ h1)
    · rcases List.mem_cons.mp hy with rfl | hy
      · refine Int.le_trans h3 ?_
        split
        · omega
        · exact Int.le_refl _
      · rcases List.mem_cons.mp hy with rfl | hy
        · refine Int.le_trans h3 ?_
          split
          · exact Int.le_refl _
          · omega
        · exact h2 y (.tail _ hy)
theorem maxOf_ge : ∀ (xs : List Int) (x : Int), PySem.W.maxOf x xs ∈ x :: xs ∧ ∀ y ∈ x :: xs, y ≤ PySem.W.maxOf x xs
  | [], x => ⟨List.mem_cons_self .., fun y hy => by rw [List.mem_singleton.mp hy]; exact Int.le_refl _⟩
  | z :: zs, x => by
    have e : PySem.W.maxOf x (z :: zs) = PySem.W.maxOf (if x < z then z else x) zs := by
      show PySem.W.maxOf (if decide (x < z) = true then z else x) zs = _
      simp only [decide_eq_true_eq]
    rw [e]
    obtain ⟨h1, h2⟩ := maxOf_ge zs (if x < z then z else x)
    have h3 := h2 _ (List.mem_cons_self ..)
    refine ⟨?_, fun y hy => ?_⟩
    · rcases List.mem_cons.mp h1 with h1 | h1
      · rw [h1]
        split
        · exact .tail _ (.head _)
        · exact .head _
      · exact .tail _ (.tail _ h1)
    · rcases List.mem_cons.mp hy with rfl | hy
      · refine Int.le_trans ?_ h3
        split
        · omega
        · exact Int.le_refl _
      · rcases List.mem_cons.mp hy with rfl | hy
        · refine Int.le_trans ?_ h3
          split
          · exact Int.le_refl _
          · omega
        · exact h2 y (.tail _ hy)
section
variable {X : Cx} {k : Nat}
theorem c_minT (hc : X.calm = true) (hr : X.A.units + 64 < cLine) : CallR X (.builtin "min") (rMinT X.K) := by
  intro pins s σ H vs us Q I r h
  obtain ⟨a, ns, rfl, hs, hne, q⟩ := h
  obtain ⟨its, rv, hl, hz⟩ := I.tuple hs
  rw [Vals.ref1 r]
  have hi := rv.ints
  cases ns with
  | nil => exact absurd rfl hne
  | cons x xs =>
    refine PySem.W.min_tuple_datum (α := Int) (x := x) (xs := xs) (I.ok.hd hc) hl (by rw [List.toList_toArray]; exact ints_hold hi) (by show _ + 1 + _ < _; have : PySem.W.Datum.depth Int ≤ 60 := by decide
                                                                                                                                        omega) fun i v h' tk _ hv hk => ?_
    obtain ⟨as, rd⟩ := hv
    obtain ⟨h1, h2⟩ := minOf_le xs x
    cases rd
    exact ⟨.int _, H, I.kept hk, ⟨_, rfl⟩, q _ h1 h2⟩
theorem c_maxT (hc : X.calm = true) (hr : X.A.units + 64 < cLine) : CallR X (.builtin "max") (rMaxT X.K) := by
  intro pins s σ H vs us Q I r h
  obtain ⟨a, ns, rfl, hs, hne, q⟩ := h
  obtain ⟨its, rv, hl, hz⟩ := I.tuple hs
  rw [Vals.ref1 r]
  have hi := rv.ints
  cases ns with
  | nil => exact absurd rfl hne
  | cons x xs =>
    refine PySem.W.max_tuple_datum (α := Int) (x := x) (xs := xs) (I.ok.hd hc) hl (by rw [List.toList_toArray]; exact ints_hold hi) (by show _ + 1 + _ < _; have : PySem.W.Datum.depth Int ≤ 60 := by decide
                                                                                                                                        omega) fun i v h' tk _ hv hk => ?_
    obtain ⟨as, rd⟩ := hv
    obtain ⟨h1, h2⟩ := maxOf_ge xs x
    cases rd
    exact ⟨.int _, H, I.kept hk, ⟨_, rfl⟩, q _ h1 h2⟩
end
section
variable {c : Ctx} {S : Sto} {F : D → Sto → Prop}
theorem rc_minT {ns : List Int} (ne : ns ≠ []) (q : ∀ m, m ∈ ns → (∀ y ∈ ns, m ≤ y) → F (.int m) S) : RC c (rMinT c.K) [.tup (ns.map D.int)] S F := fun T us H cl r Q k => by
  cases r with
  | cons h1 t =>
    cases t
    obtain ⟨a, xs, rfl, s, r⟩ := h1.seqT
    have e := r.ints
    subst e
    exact ⟨a, ns, rfl, s, ne, fun m h1 h2 => k _ _ S T H Mv.refl cl (.int _) (q m h1 h2)⟩
theorem rc_maxT {ns : List Int} (ne : ns ≠ []) (q : ∀ m, m ∈ ns → (∀ y ∈ ns, y ≤ m) → F (.int m) S) : RC c (rMaxT c.K) [.tup (ns.map D.int)] S F := fun T us H cl r Q k => by
  cases r with
  | cons h1 t =>
    cases t
    obtain ⟨a, xs, rfl, s, r⟩ := h1.seqT
    have e := r.ints
    subst e
    exact ⟨a, ns, rfl, s, ne, fun m h1 h2 => k _ _ S T H Mv.refl cl (.int _) (q m h1 h2)⟩
end
end VS
namespace VS
open PySem L2 C8 PySem.Spec PyProof.Rows
/-! ### dicts whose keys are numbers and texts: d[k], d[k] = v, {} by reference -/
def valD (ds : List (Key × D)) (k : Key) : Option D := (ds.find? fun kv => decide (kv.1 = k)).map (·.2)
def dkPut (ds : List (Key × D)) (k : Key) (d : D) : List (Key × D) :=
  if (ds.any fun kv => decide (kv.1 = k)) = true then ds.map (fun kv => if kv.1 = k then (kv.1, d) else kv) else ds ++ [(k, d)]
theorem valD_pos {p : Key × D} {r : List (Key × D)} {k : Key} (e : p.1 = k) : valD (p :: r) k = some p.2 := by simp [valD, List.find?_cons, e]
theorem valD_neg {p : Key × D} {r : List (Key × D)} {k : Key} (e : ¬ p.1 = k) : valD (p :: r) k = valD r k := by simp [valD, List.find?_cons, e]
section
variable {K : PySem.W.Frag} {H : Hp} {S : Sto}
theorem RepK.val {k : Key} : ∀ {vs : List (Key × V)} {ds : List (Key × D)}, RepK K H S vs ds → (valV vs k = none ∧ valD ds k = none) ∨ ∃ v d, valV vs k = some v ∧ valD ds k = some d ∧ Rep K H S v d
  | _, _, .nil => .inl ⟨rfl, rfl⟩
  | _, _, .cons (k := k') h t => by
    by_cases e : k' = k
    · exact .inr ⟨_, _, valV_pos e, valD_pos e, h⟩
    · rw [valV_neg e, valD_neg e]
      exact RepK.val t
theorem RepK.anyK {k : Key} : ∀ {vs : List (Key × V)} {ds : List (Key × D)}, RepK K H S vs ds → (vs.any fun kv => decide (kv.1 = k)) = ds.any fun kv => decide (kv.1 = k)
  | _, _, .nil => rfl
  | _, _, .cons h t => by rw [List.any_cons, List.any_cons, RepK.anyK t]
theorem RepK.rep {k : Key} {v : V} {d : D} (r : Rep K H S v d) : ∀ {vs : List (Key × V)} {ds : List (Key × D)}, RepK K H S vs ds → RepK K H S (vs.map fun kv => if kv.1 = k then (kv.1, v) else kv) (ds.map fun kv => if kv.1 = k then (kv.1, d) else kv)
  | _, _, .nil => .nil
  | _, _, .cons (k := k') h t => by
    rw [List.map_cons, List.map_cons]
    by_cases e : k' = k
    · rw [if_pos e, if_pos e]; exact .cons r (RepK.rep r t)
    · rw [if_neg e, if_neg e]; exact .cons h (RepK.rep r t)
theorem RepK.app {k : Key} {v : V} {d : D} (r : Rep K H S v d) : ∀ {vs : List (Key × V)} {ds : List (Key × D)}, RepK K H S vs ds → RepK K H S (vs ++ [(k, v)]) (ds ++ [(k, d)])
  | _, _, .nil => .cons r .nil
  | _, _, .cons h t => .cons h (RepK.app r t)
theorem RepK.put {k : Key} {v : V} {d : D} {vs : List (Key × V)} {ds : List (Key × D)} (r : Rep K H S v d) (h : RepK K H S vs ds) : RepK K H S (putK vs k v) (dkPut ds k d) := by
  unfold putK dkPut
  rw [h.anyK]
  by_cases e : (ds.any fun kv => decide (kv.1 = k)) = true
  · rw [if_pos e, if_pos e]; exact RepK.rep r h
  · rw [if_neg e, if_neg e]; exact RepK.app r h
theorem RepK.length : ∀ {vs : List (Key × V)} {ds : List (Key × D)}, RepK K H S vs ds → vs.length = ds.length
  | _, _, .nil => rfl
  | _, _, .cons h t => congrArg (· + 1) (RepK.length t)
end
inductive IsDk (S : Sto) : D → List (Key × D) → Prop
  | v {ds : List (Key × D)} : IsDk S (.dK ds) ds
  | c {l : Addr} {ds : List (Key × D)} (h : S l = some (.dK ds)) : IsDk S (.ref l) ds
theorem IsDk.rd {K : PySem.W.Frag} {H : Hp} {S T : Sto} {x : D} {ds : List (Key × D)} {u : V} (h : IsDk S x ds) (cl : Cells K H S T) (r : Rep K H T u x) : ∃ a vs, u = .ref a ∧ Rd H a (.dK vs) ∧ RepK K H T vs ds := by
  cases h with
  | v => cases r with
    | dK s h r => exact ⟨_, _, rfl, h, r⟩
  | c h => cases r; obtain ⟨xs, h1, r⟩ := cl.ok _ _ (cl.at h); exact ⟨_, xs, rfl, .inl h1, r⟩
theorem DGet.r {H : Hp} {a : Addr} {kvs : List (Key × V)} {k : Key} (e : Rd H a (.dK kvs)) : DGet H a (kV k) (valV kvs k) := .inl ⟨kvs, k, e, rfl, rfl⟩
/-! ### lists or tuples: s[i], s[i:j] -/
end VS
namespace VS
open PySem L2 PySem.Spec PyProof.Rows
/-! ### comprehensions over a list known by reference, once more: the result by reference; each element by itself -/
end VS
namespace VS
open PySem L2 C8 PySem.Spec PyProof.Rows
/-! ### sorted(xs, key=f, reverse=b), f an own def -/
def kdV : V → Option PyData
  | .int i => some (.int i)
  | .str x => some (.str x)
  | _ => none
/-- the keys, one by one; the heap may grow meanwhile -/
def keyO (sp : Sp) (Q : List PyData → Hp → Prop) : List V → List PyData → Hp → Prop
  | [], ks, H => Q ks H
  | x :: r, ks, H => sp [x] H (fun v H1 => ∃ k, kdV v = some k ∧ keyO sp Q r (ks ++ [k]) H1) (fun _ _ _ => False)
/-- a key that is known from the value alone -/
def Imm (v : Value) (k : PyData) : Prop := (∃ n t, v = .int n t ∧ k = .int n) ∨ ∃ x t, v = .str x t ∧ k = .str x
theorem Imm.reads {v : Value} {k : PyData} {h : Heap} (i : Imm v k) : Reads h v k [] := by
  rcases i with ⟨n, t, rfl, rfl⟩ | ⟨x, t, rfl, rfl⟩
  · exact .int n t
  · exact .str x t
theorem kdV_imm {v : V} {u : Value} {k : PyData} (e : kdV v = some k) (r : RelV v u) : Imm u k := by
  cases v with
  | int i => cases e; obtain ⟨t, rfl⟩ := r; exact .inl ⟨_, _, rfl, rfl⟩
  | str x => cases e; obtain ⟨t, rfl⟩ := r; exact .inr ⟨_, _, rfl, rfl⟩
  | _ => cases e
theorem freed_none {h : Heap} {a : Addr} : (h.update a (fun o => { o with data := .freed })).get? a = none := by
  obtain ⟨objs, l⟩ := h
  unfold Heap.update Heap.get?
  simp only [Array.getElem?_modify, if_true]
  cases objs[a]? with
  | none => rfl
  | some o => rfl
section
variable {X : Cx} {k : Nat} {f : Addr} {fd : FuncData} {ps : List Str} {sp : Sp}
theorem fpOk_of {pins pins' : List (Addr × Obj)} {σ : L2.St} {H H0 : Hp} {s : Shared} {b : Addr} {ob : Obj} (f0 : FpOk X pins H0 b) (I : Inv X (pins ++ pins') σ H s) (hm : (b, ob) ∈ pins') : FpOk X pins H b := by
  obtain ⟨_, h1, h2, h3, h4, h5⟩ := f0
  exact ⟨(I.pin (b, ob) (List.mem_append_right _ (List.mem_append_right _ hm))).2.1, h1, h2, h3, h4, h5⟩
theorem inv_repin {pins : List (Addr × Obj)} {σ : L2.St} {H H0 : Hp} {s : Shared} {a kS : Addr} {oa ok ok' : Obj} {h' : Heap} {t : Nat} (I : Inv X (pins ++ [(a, oa), (kS, ok)]) σ H s) (f0 : FpOk X pins H0 kS) (hka : kS ≠ a)
    (hk : ∀ b o, b ≠ kS → s.heap.get? b = some o → h'.get? b = some o) (new : h'.get? kS = some ok') (nc : ∀ v, ok'.data ≠ .cell v) : Inv X (pins ++ [(a, oa), (kS, ok')]) σ H { s with heap := h', toks := t } := by
  obtain ⟨g0, g1, g2, g3, g4, g5⟩ := fpOk_of (ob := ok) f0 I (by simp)
  have J : Inv X (pins ++ [(a, oa)]) σ H s := I.pins_of fun p hp => I.pin p (List.mem_append_right _ (by
    rcases List.mem_append.mp hp with z | z
    · exact List.mem_append_left _ z
    · rw [List.mem_singleton.mp z]; exact List.mem_append_right _ (by simp)))
  have J2 := J.turned (t' := t) hk g0 g1 g3 g4 fun p hp => by
    rcases List.mem_append.mp hp with z | z
    · exact g5 p (List.mem_append_left _ z)
    · rcases List.mem_append.mp z with z | z
      · exact g5 p (List.mem_append_right _ z)
      · rw [List.mem_singleton.mp z]; exact Ne.symm hka
  refine J2.pins_of fun p hp => ?_
  rcases List.mem_append.mp hp with z | z
  · exact J2.pin p (List.mem_append_right _ (List.mem_append_left _ z))
  · rcases List.mem_cons.mp z with z | z
    · rw [z]; exact J2.pin (a, oa) (List.mem_append_right _ (List.mem_append_right _ (by simp)))
    · rw [List.mem_singleton.mp z]
      exact ⟨new, g0, g1, g2, nc⟩
open PySem.W in
theorem keyI_rest {pins : List (Addr × Obj)} {σ : L2.St} {A : Around} (F : FnG X.prog X.w X.K X.mg X.base (L2.CX X.prog X.w) k f fd ps sp) (hgd : A.guards = some []) (hr : Room k A) (fr : A.frames = X.A.frames) (hb : Binds X.K fd ps [])
    {s : Shared} {H H0 : Hp} {a kS : Addr} {e1 : Nat} {b : Bool} {xs : List V} {vs : List Value} {P : PySem.Fin → Shared → Prop} {E : Value → Shared → Prop} (rv : Vals xs vs) (hka : kS ≠ a) (hZ : vs.length ≤ sizeLine) (fa : FpOk X pins H0 a) (fk : FpOk X pins H0 kS)
    (I : Inv X (pins ++ [(a, seqObj "list" #[] e1), (kS, seqObj "list" #[] 0)]) σ H s) {R : List PyData → Hp → Prop} (hk : keyO sp R xs [] H)
    (hR : ∀ ks H', R ks H' → AllAlike ks ∧ PySem.W.Sortable ks ∧ (∀ d ∈ ks, A.units + d.depth < cLine) ∧ ∀ s' out c, Inv X pins σ H' s' → FpOk X pins H' a → s'.heap.get? a = some (seqObj "list" (List.toArray out) c) → KeyedOut b ks vs out → ks.length = vs.length → P (.done (.ret .none)) s') :
    wpAny (model X.prog X.w) A (ksk_rest a (.ref f) b vs.toArray e1 (.ref kS)) P E s := by
  unfold ksk_rest
  refine wpAny_bind (wpAny_rule ?_)
  first
    | rw [List.forIn_toArray]
    | (rw [← Array.forIn_toList]; simp only [List.toList_toArray])
    | rw [← Array.forIn_toList]
  refine wpAny_bind (ksk_fold (fun i s' => ∃ H' ks kA e, Inv X (pins ++ [(a, seqObj "list" #[] e1), (kS, seqObj "list" kA e)]) σ H' s' ∧ keyO sp R (xs.drop i) ks H' ∧ ks.length = i ∧ EachIs Imm kA.toList ks) vs 0 s
    ⟨H, [], #[], 0, I, hk, rfl, EachIs.nil⟩ ?step ?done)
  case step =>
    rintro j u s' hx ⟨H', ks, kA, e, J, hk', hl, he⟩
    simp only [Nat.zero_add] at hk' hl ⊢
    have hj : j < vs.length := (List.getElem?_eq_some_iff.mp hx).1
    have hjx : j < xs.length := by rw [rv.length]; exact hj
    obtain ⟨u', hu', rx⟩ := rv.get (List.getElem?_eq_getElem hjx)
    rw [hx] at hu'
    cases hu'
    rw [List.drop_eq_getElem_cons hjx] at hk'
    have hz : kA.size ≤ vs.length := by
      have h1 := he.length
      rw [Array.length_toList] at h1
      omega
    refine wpAny_bind (wpAny_attempt (wpAny_mono (callG_at (X := X.wish fun _ _ => False) (A := A) F hgd hr fr hb (J.wish _) (.cons rx .nil) hk') (fun v s'' he' => ?_) fun _ _ hF => hF.elim))
    obtain ⟨x1, H1, J1, r1, k1, ek, hk1⟩ := he'
    have J1 := J1.unwish
    have im := kdV_imm ek r1
    try dsimp only
    have nk2 := (J1.pin (kS, seqObj "list" kA e) (List.mem_append_right _ (List.mem_append_right _ (by simp)))).1
    have s1 := Heap.SameBut.update s''.heap kS (Obj.mapSeq (·.push v))
    obtain ⟨c2, hc2⟩ : ∃ c2, (s''.heap.update kS (Obj.mapSeq (·.push v))).get? kS = some (seqObj "list" (kA.push v) c2) := ⟨_, get?_update_seq nk2 (·.push v)⟩
    refine wpAny_bind (listUpdate_at nk2 rfl ?_ (Nat.le_trans hz hZ) (Nat.le_trans (Nat.le_of_eq (Array.size_push ..)) (Nat.succ_le_succ (Nat.le_trans hz hZ))))
    refine wpAny_pure ⟨rfl, H1, ks ++ [k1], kA.push v, c2, inv_repin (t := s''.toks) J1 fk hka (fun b o hb e => (s1.2 b hb).trans e) hc2 (fun v z => by cases z), hk1, by rw [List.length_append, hl]; rfl, ?_⟩
    rw [show (kA.push v).toList = kA.toList ++ [v] by simp]
    exact each_snoc (R := Imm) im he
  case done =>
    rintro s' ⟨H', ks, kA, e, J, hk', hl, he⟩
    rw [Nat.zero_add] at hk' hl
    rw [List.drop_of_length_le (by rw [rv.length]; exact Nat.le_refl _)] at hk'
    obtain ⟨al, so, hu, fin⟩ := hR ks H' hk'
    have nk := (J.pin (kS, seqObj "list" kA e) (List.mem_append_right _ (List.mem_append_right _ (by simp)))).1
    have na := (J.pin (a, seqObj "list" #[] e1) (List.mem_append_right _ (List.mem_append_right _ (by simp)))).1
    have ha' := fpOk_of (ob := seqObj "list" #[] e1) fa J (by simp)
    have hk2 := fpOk_of (ob := seqObj "list" kA e) fk J (by simp)
    have hke : EachIs (fun v d => ∃ as, Reads s'.heap v d as) kA.toList ks := he.mono fun v d i => ⟨[], i.reads⟩
    have hsz : kA.size = vs.length := by
      have h1 := he.length
      rw [Array.length_toList] at h1
      omega
    have sb := Heap.SameBut.update s'.heap kS (fun o => { o with data := .freed })
    have hnone : (s'.heap.update kS (fun o => { o with data := .freed })).get? kS = none := freed_none
    try dsimp only
    refine wpAny_bind (listItems_at nk rfl ?_)
    refine keyH_end (κ := dataKind s'.heap ks) (h₁ := s'.heap.update kS (fun o => { o with data := .freed })) (fun b o hb q => ?_) hnone nk na hka (SortsAt.data hke al so hu) hsz hZ fun h3 tk3 c k3 n3 => ?_
    · have nb : b ≠ kS := fun z => by subst z; rw [hnone] at q; cases q
      rw [sb.2 b nb] at q
      exact q
    · have J0 : Inv X pins σ H' s' := J.unpinned
      have J3 : Inv X pins σ H' { s' with heap := h3, toks := tk3 } := J0.turnedL (ch := [a, kS]) (fun b o hb q => k3 b o (fun z => hb (by simp [z])) (by rw [sb.2 b (fun z => hb (by simp [z]))]; exact q)) fun b hb => by
        rcases List.mem_cons.mp hb with z | z
        · rw [z]; exact ha'
        · rw [List.mem_singleton.mp z]; exact hk2
      exact fin _ _ c J3 ha' n3 ⟨s'.heap, kA.toList, al, rfl, hke⟩ (by omega)
open PySem.W in
theorem each_zip : ∀ {xs : List V} {vs : List Value} {ks : List PyData}, Vals xs vs → ks.length = xs.length → EachIs (fun (v : Value) (p : V × PyData) => RelV p.1 v) vs (xs.zip ks)
  | _, _, _, .nil, _ => EachIs.nil
  | _, _, [], .cons _ _, h => by cases h
  | _, _, _ :: ks, .cons h t, hl => EachIs.cons h (each_zip t (Nat.succ.inj hl))
/-- sorted(xs, key=f) -/
def rSortK (K : PySem.W.Frag) (zs0 : List V) (b : Bool) (sp : Sp) : List V → List V → Hp → VK → Prop := fun vs zs H Q => ∃ (a : Addr) (xs : List V), vs = [V.ref a] ∧ zs = zs0 ∧ SqL K H a xs ∧
  keyO sp (fun ks H' => PySem.W.AllAlike ks ∧ PySem.W.Sortable ks ∧ (∀ d ∈ ks, d.depth ≤ 20) ∧ (ks.length = xs.length → ∀ p, H' p = none → Q (.ref p) (upd H' p (.lst (((xs.zip ks).mergeSort (PySem.W.dataLe b Prod.snd)).map Prod.fst))))) xs [] H
open PySem.W in
theorem sortK_run {pins : List (Addr × Obj)} {σ : L2.St} (F : FnG X.prog X.w X.K X.mg X.base (L2.CX X.prog X.w) k f fd ps sp) (hgd : X.A.guards = some []) (hr : Room (k + 1 + 1) X.A) (hb : Binds X.K fd ps [])
    {s : Shared} {H : Hp} {l : Addr} {xs : List V} {b : Bool} {kw : List (Str × Value)} {Q : VK} (I : Inv X pins σ H s) (hs : SqL X.K H l xs) (ha1 : argsOk "sorted" ⟨[.ref l], kw⟩) (ha2 : ∀ x, argsOk "list.sort" ⟨[.ref x], kw⟩) (ht : ∀ x, Builtin.«list.sort» ⟨[.ref x], kw⟩ = ksk_tree x (.ref f) b)
    (h : keyO sp (fun ks H' => AllAlike ks ∧ PySem.W.Sortable ks ∧ (∀ d ∈ ks, d.depth ≤ 20) ∧ (ks.length = xs.length → ∀ p, H' p = none → Q (.ref p) (upd H' p (.lst (((xs.zip ks).mergeSort (dataLe b Prod.snd)).map Prod.fst))))) xs [] H) :
    wpAny (model X.prog X.w) X.A (call (.builtin "sorted") [.ref l] kw) (EP X pins σ Q) X.xe s := by
  obtain ⟨vs, rv, hl, hz⟩ := I.list hs
  have hZ : vs.length ≤ sizeLine := by rw [← rv.length]; exact hz
  refine sorted_of_sort hl.isList hZ ha1 ha2 fun E' => ?_
  rw [ht]
  have ho : (copyHeap s.heap vs).get? (s.heap.objs.size + 1) = some (seqObj "list" vs.toArray 0) := copyHeap_at s.heap vs
  have ha : s.heap.objs.size + 1 < (copyHeap s.heap vs).objs.size := Heap.lt_size ho
  obtain ⟨e1, ho1⟩ : ∃ e1, ((copyHeap s.heap vs).update (s.heap.objs.size + 1) (Obj.mapSeq fun _ => (#[] : Array Value))).get? (s.heap.objs.size + 1) = some (seqObj "list" #[] e1) := ⟨_, get?_update_seq ho fun _ => #[]⟩
  have hkS : (((copyHeap s.heap vs).update (s.heap.objs.size + 1) (Obj.mapSeq fun _ => (#[] : Array Value))).push (seqObj "tuple" vs.toArray 0)).objs.size = (copyHeap s.heap vs).objs.size + 1 := by rw [size_push', Heap.size_update]
  unfold ksk_tree
  refine wpAny_bind (listItems_at ho rfl ?_)
  refine wpAny_bind (listUpdate_at ho rfl ?_ (by rw [List.size_toArray]; exact hZ) (Nat.zero_le _))
  refine wpAny_bind (seqEpoch_at ho1 rfl ?_)
  refine wpAny_bind (wpAny_newTuple ?_ (by show vs.length ≤ _; exact hZ))
  refine wpAny_bind (wpAny_newList ?_ (Nat.zero_le _))
  refine wpAny_holding ?_
  have fa : FpOk X pins H (s.heap.objs.size + 1) := I.fpOk (Nat.le_succ _) (I.hok.fresh (Nat.le_succ _))
  have lk : s.heap.objs.size ≤ (((copyHeap s.heap vs).update (s.heap.objs.size + 1) (Obj.mapSeq fun _ => (#[] : Array Value))).push (seqObj "tuple" vs.toArray 0)).objs.size := by rw [hkS]; omega
  have fk : FpOk X pins H (((copyHeap s.heap vs).update (s.heap.objs.size + 1) (Obj.mapSeq fun _ => (#[] : Array Value))).push (seqObj "tuple" vs.toArray 0)).objs.size := I.fpOk lk (I.hok.fresh lk)
  have J : Inv X pins σ H { s with heap := sortingHeap (copyHeap s.heap vs) (s.heap.objs.size + 1) vs } := I.kept (t' := s.toks) fun c o e => sortingHeap_old (Nat.ne_of_lt (Nat.lt_succ_of_lt (Heap.lt_size e))) (copyHeap_old e)
  have J2 : Inv X (pins ++ [(s.heap.objs.size + 1, seqObj "list" #[] e1), ((((copyHeap s.heap vs).update (s.heap.objs.size + 1) (Obj.mapSeq fun _ => (#[] : Array Value))).push (seqObj "tuple" vs.toArray 0)).objs.size, seqObj "list" #[] 0)]) σ H { s with heap := sortingHeap (copyHeap s.heap vs) (s.heap.objs.size + 1) vs } := J.pins_of fun p hp => by
    rcases List.mem_append.mp hp with z | z
    · exact J.pin p (List.mem_append_right _ z)
    · rcases List.mem_cons.mp z with z | z
      · rw [z]
        exact ⟨Heap.get?_push_of_some _ (Heap.get?_push_of_some _ ho1), fa.1, fa.2.1, fa.2.2.1, fun v q => by cases q⟩
      · rw [List.mem_singleton.mp z]
        exact ⟨Heap.get?_push_size _ rfl, fk.1, fk.2.1, fk.2.2.1, fun v q => by cases q⟩
  refine keyI_rest (A := X.A.in1.in1) (H0 := H) F hgd hr.in1.in1 rfl hb rv (by rw [hkS]; exact Nat.ne_of_gt (Nat.lt_succ_of_lt ha)) hZ fa fk J2 h fun ks H' ⟨al, so, dp, q⟩ => ⟨al, so, fun d hd => ?_, fun s' out c I' f' hg ko hl' => ⟨rfl, ?_⟩⟩
  · have := hr.in1.in1.units
    have := dp d hd
    omega
  · have hlx : ks.length = xs.length := by rw [hl', rv.length]
    have em : (xs.zip ks).map Prod.snd = ks := by rw [List.map_snd_zip]; omega
    have each : EachIs (fun (v : Value) (p : V × PyData) => RelV p.1 v) vs (xs.zip ks) := each_zip rv hlx
    rw [← em] at ko
    have eo := keyedOut_each (R := fun (v : Value) (p : V × PyData) => RelV p.1 v) Prod.snd ko each
    have vo : ∀ {os : List Value} {qs : List (V × PyData)}, EachIs (fun (v : Value) (p : V × PyData) => RelV p.1 v) os qs → Vals (qs.map Prod.fst) os := fun e => by
      induction e with
      | nil => exact .nil
      | cons h t ih => exact .cons h ih
    have hlo : (((xs.zip ks).mergeSort (dataLe b Prod.snd)).map Prod.fst).length ≤ sizeLine := by
      rw [List.length_map, List.length_mergeSort, List.length_zip, hlx, Nat.min_self]
      exact hz
    exact ⟨.ref _, upd H' (s.heap.objs.size + 1) (.lst (((xs.zip ks).mergeSort (dataLe b Prod.snd)).map Prod.fst)), I'.take (t' := s'.toks) (fun _ _ _ e => e) f' ⟨hlo, out, c, vo eo, hg⟩, rfl, q hlx _ f'.1⟩
open PySem.W in
theorem c_sortKR {b : Bool} (F : FnG X.prog X.w X.K X.mg X.base (L2.CX X.prog X.w) k f fd ps sp) (hgd : X.A.guards = some []) (hr : Room (k + 1 + 1) X.A) (hb : Binds X.K fd ps []) : CallRK X (.builtin "sorted") [Str.ofString "key", Str.ofString "reverse"] (rSortK X.K [.ref f, .bl b] b sp) := by
  intro pins s σ H vs zs us ws Q I r rz h
  obtain ⟨a, xs, rfl, rfl, hs, q⟩ := h
  obtain rfl := Vals.ref1 r
  obtain ⟨w1, w2, rfl, e1, e2⟩ := vals2 rz
  obtain rfl : w1 = Value.ref f := e1
  obtain rfl : w2 = Value.bool b := e2
  exact sortK_run F hgd hr hb I hs (ksk_s2 _ _ _) (fun _ => ksk_l2 _ _ _) (fun x => ksk_t2 f x b) q
end
section
variable {c : Ctx} {ρ : Rho} {S : Sto} {F : D → Sto → Prop}
def kdD : D → Option PyData
  | .int i => some (.int i)
  | .str x => some (.str x)
  | _ => none
theorem kdD_V {K : PySem.W.Frag} {H : Hp} {T : Sto} {v : V} {d : D} {k : PyData} (e : kdD d = some k) (r : Rep K H T v d) : kdV v = some k := by
  cases d with
  | int i => cases r; exact e
  | str x => cases r; exact e
  | _ => cases e
/-- the things sorted by their keys -/
def srtK (b : Bool) (ds : List D) (ks : List PyData) : List D := ((ds.zip ks).mergeSort (PySem.W.dataLe b Prod.snd)).map Prod.fst
theorem map_sortZ {α β : Type} (b : Bool) (g : α → β) (xs : List α) (ks : List PyData) : (((xs.zip ks).mergeSort (PySem.W.dataLe b Prod.snd)).map fun p => (g p.1, p.2)) = ((xs.map g).zip ks).mergeSort (PySem.W.dataLe b Prod.snd) := by
  rw [List.map_mergeSort (s := PySem.W.dataLe b Prod.snd) (fun x _ y _ => by rw [PySem.W.dataLe_eq, PySem.W.dataLe_eq]), List.zip_map_left]
  rfl
theorem RepL.pairs {K : PySem.W.Frag} {H : Hp} {T : Sto} : ∀ {vs : List V} {ds : List D}, RepL K H T vs ds → ∃ qs : List (V × D), qs.map Prod.fst = vs ∧ qs.map Prod.snd = ds ∧ ∀ q ∈ qs, Rep K H T q.1 q.2
  | _, _, .nil => ⟨[], rfl, rfl, nofun⟩
  | _, _, .cons (v := v) (d := d) h t => by
    obtain ⟨qs, e1, e2, hq⟩ := RepL.pairs t
    exact ⟨(v, d) :: qs, by rw [List.map_cons, e1], by rw [List.map_cons, e2], fun q m => (List.mem_cons.mp m).elim (fun e => by rw [e]; exact h) (hq q)⟩
theorem RepL.of_pairs {K : PySem.W.Frag} {H : Hp} {T : Sto} : ∀ {qs : List (V × D)}, (∀ q ∈ qs, Rep K H T q.1 q.2) → RepL K H T (qs.map Prod.fst) (qs.map Prod.snd)
  | [], _ => .nil
  | q :: qs, h => .cons (h q (List.mem_cons_self ..)) (RepL.of_pairs fun x m => h x (List.mem_cons_of_mem _ m))
theorem RepL.srt {K : PySem.W.Frag} {H : Hp} {T : Sto} {vs : List V} {ds : List D} (r : RepL K H T vs ds) (b : Bool) (ks : List PyData) : RepL K H T (((vs.zip ks).mergeSort (PySem.W.dataLe b Prod.snd)).map Prod.fst) (srtK b ds ks) := by
  obtain ⟨qs, rfl, rfl, hq⟩ := r.pairs
  unfold srtK
  rw [← map_sortZ, ← map_sortZ, List.map_map, List.map_map]
  have e1 : ∀ (zs : List ((V × D) × PyData)), zs.map (Prod.fst ∘ fun p => (p.1.1, p.2)) = (zs.map Prod.fst).map Prod.fst := fun zs => by rw [List.map_map]; rfl
  have e2 : ∀ (zs : List ((V × D) × PyData)), zs.map (Prod.fst ∘ fun p => (p.1.2, p.2)) = (zs.map Prod.fst).map Prod.snd := fun zs => by rw [List.map_map]; rfl
  rw [e1, e2]
  refine RepL.of_pairs fun q m => ?_
  obtain ⟨p, hp, rfl⟩ := List.mem_map.mp m
  have := (List.mergeSort_perm (qs.zip ks) (PySem.W.dataLe b Prod.snd)).mem_iff.mp hp
  exact hq _ (List.of_mem_zip this).1
/-- the keys of ds told by p, one by one, nothing changed -/
theorem keyO_val {K : PySem.W.Frag} {p : Pt} {Q : List PyData → Hp → Prop} {S : Sto} : ∀ {ds : List D} {ks js : List PyData} {vs : List V} {T : Sto} {H : Hp}, ks.length = ds.length → (∀ (i : Nat) (d : D) (k : PyData), ds[i]? = some d → ks[i]? = some k → p [d] S (fun v S' => kdD v = some k ∧ S' = S) noY) →
    RepL K H T vs ds → Cells K H S T → (∀ T' H', Mv T H T' H' → Cells K H' S T' → Q (js ++ ks) H') → keyO (spOf K p) Q vs js H
  | [], [], js, _, T, H, _, _, .nil, cl, q => by
    have := q T H Mv.refl cl
    rw [List.append_nil] at this
    exact this
  | [], _ :: _, _, _, _, _, hl, _, _, _, _ => by cases hl
  | _ :: _, [], _, _, _, _, hl, _, _, _, _ => by cases hl
  | d :: ds, k :: ks, js, _, T, H, hl, turn, .cons r rt, cl, q => by
    refine ⟨[d], S, T, _, noY, .cons r .nil, cl, turn 0 d k rfl rfl, ?_, fun _ _ _ _ _ _ _ _ _ z => z.elim⟩
    rintro v d' S' T' H' m cl' r' ⟨ek, rfl⟩
    refine ⟨k, kdD_V ek r', keyO_val (ds := ds) (ks := ks) (js := js ++ [k]) (Nat.succ.inj hl) (fun i d k h1 h2 => turn (i + 1) d k h1 h2) (rt.mv m) cl' fun T2 H2 m2 cl2 => ?_⟩
    have := q T2 H2 (m.trans m2) cl2
    rw [List.append_assoc]
    exact this
theorem rck_sortK {x : D} {zs : List D} {zs0 : List V} {ds : List D} {ks : List PyData} {b : Bool} {p : Pt} (h : IsL S x ds) (hz : ∀ K H T ws, RepL K H T ws zs → ws = zs0) (hl : ks.length = ds.length) (al : PySem.W.AllAlike ks) (so : PySem.W.Sortable ks) (dp : ∀ d ∈ ks, d.depth ≤ 20)
    (turn : ∀ (i : Nat) (d : D) (k : PyData), ds[i]? = some d → ks[i]? = some k → p [d] S (fun v S' => kdD v = some k ∧ S' = S) noY) (q : F (.lst (srtK b ds ks)) S) : RCK c (rSortK c.K zs0 b (spOf c.K p)) [x] zs S F := fun T us ws H cl r r' Q k => by
  cases r with
  | cons h1 t =>
    cases t
    obtain ⟨a, xs, rfl, s, r⟩ := h.rd cl h1
    refine ⟨a, xs, rfl, hz _ _ _ _ r', s, keyO_val hl turn r cl fun T' H' m cl' => ⟨al, so, dp, fun _ pp hp => ?_⟩⟩
    exact k _ _ S T' _ (m.trans (mv_new hp)) (cl'.new hp) (.lst (cl'.free hp) upd_same (((r.mv m).srt b ks).mv (mv_new hp))) q
end
end VS
namespace VS
open PySem L2 PySem.Spec PyProof.Rows
/-! ### things seen whole: what is known by reference within them, too -/
mutual
inductive Vd (S : Sto) : D → D → Prop
  | v {d : D} : Vd S d d
  | c {l : Addr} {d d' : D} (h : S l = some d) (n : d ≠ .hid) (k : Vd S d d') : Vd S (.ref l) d'
  | lst {xs ys : List D} (h : VdL S xs ys) : Vd S (.lst xs) (.lst ys)
  | tup {xs ys : List D} (h : VdL S xs ys) : Vd S (.tup xs) (.tup ys)
  | dK {xs ys : List (Key × D)} (h : VdK S xs ys) : Vd S (.dK xs) (.dK ys)
  | ins {C : Addr} {fs gs : List (Str × D)} (h : VdF S fs gs) : Vd S (.ins C fs) (.ins C gs)
inductive VdL (S : Sto) : List D → List D → Prop
  | nil : VdL S [] []
  | cons {x y : D} {xs ys : List D} (h : Vd S x y) (t : VdL S xs ys) : VdL S (x :: xs) (y :: ys)
inductive VdK (S : Sto) : List (Key × D) → List (Key × D) → Prop
  | nil : VdK S [] []
  | cons {k : Key} {x y : D} {xs ys : List (Key × D)} (h : Vd S x y) (t : VdK S xs ys) : VdK S ((k, x) :: xs) ((k, y) :: ys)
inductive VdF (S : Sto) : List (Str × D) → List (Str × D) → Prop
  | nil : VdF S [] []
  | cons {k : Str} {x y : D} {xs ys : List (Str × D)} (h : Vd S x y) (t : VdF S xs ys) : VdF S ((k, x) :: xs) ((k, y) :: ys)
end
section
variable {K : PySem.W.Frag} {H : Hp} {S T : Sto}
mutual
theorem Vd.rd (cl : Cells K H S T) : ∀ {x d : D} {u : V} {T' : Sto}, Vd S x d → Rep K H T' u x → Rep K H (fun _ => none) u d
  | _, _, _, _, .v, r => r.any
  | _, _, _, _, .c h n k, r => by
    cases r
    exact Vd.rd cl k (cl.rep (cl.at h) (cl.nohid h n))
  | _, _, _, _, .lst h, r => by
    cases r with
    | lst s e r => exact .lst rfl e (VdL.rd cl h r)
  | _, _, _, _, .tup h, r => by
    cases r with
    | tup s e r => exact .tup rfl e (VdL.rd cl h r)
    | tupK e r => exact .tupK e (VdL.rd cl h r)
  | _, _, _, _, .dK h, r => by
    cases r with
    | dK s e r => exact .dK rfl e (VdK.rd cl h r)
  | _, _, _, _, .ins h, r => by
    cases r with
    | ins s e r => exact .ins rfl e (VdF.rd cl h r)
theorem VdL.rd (cl : Cells K H S T) : ∀ {xs ds : List D} {us : List V} {T' : Sto}, VdL S xs ds → RepL K H T' us xs → RepL K H (fun _ => none) us ds
  | _, _, _, _, .nil, r => by cases r; exact .nil
  | _, _, _, _, .cons h t, r => by
    cases r with
    | cons r1 r2 => exact .cons (Vd.rd cl h r1) (VdL.rd cl t r2)
theorem VdK.rd (cl : Cells K H S T) : ∀ {xs ds : List (Key × D)} {us : List (Key × V)} {T' : Sto}, VdK S xs ds → RepK K H T' us xs → RepK K H (fun _ => none) us ds
  | _, _, _, _, .nil, r => by cases r; exact .nil
  | _, _, _, _, .cons h t, r => by
    cases r with
    | cons r1 r2 => exact .cons (Vd.rd cl h r1) (VdK.rd cl t r2)
theorem VdF.rd (cl : Cells K H S T) : ∀ {xs ds : List (Str × D)} {us : List (Str × V)} {T' : Sto}, VdF S xs ds → RepF K H T' us xs → RepF K H (fun _ => none) us ds
  | _, _, _, _, .nil, r => by cases r; exact .nil
  | _, _, _, _, .cons h t, r => by
    cases r with
    | cons r1 r2 => exact .cons (Vd.rd cl h r1) (VdF.rd cl t r2)
end
end
section
variable {c : Ctx} {ρ : Rho} {S : Sto} {F : D → Sto → Prop}
theorem rv_nePV {x y d e : D} (h1 : Vd S x d) (h2 : Vd S y e) (i1 : isP d = true) (i2 : isP e = true) (s1 : SeqAt.shaped (pd d) = true) (s2 : SeqAt.shaped (pd e) = true) (q : F (.bl (!PyData.eqv (pd d) (pd e))) S) : RV c (rNeP c.K) x y S F := fun T u w H cl r1 r2 Q k =>
  ⟨d, e, fun _ => none, h1.rd cl r1, h2.rd cl r2, i1, i2, s1, s2, k _ _ S T H Mv.refl cl (.bl _) q⟩
end
end VS
namespace VS
open PySem L2
/-! ### a pure test or expression, all cells read as by value meanwhile -/
section
variable {K : PySem.W.Frag} {H : Hp} {S T : Sto}
/-- the cells that are known -/
def Kn (S : Sto) : Addr → Prop := fun a => ∃ d, S a = some d ∧ d ≠ .hid
theorem kn_hid (cl : Cells K H S T) : ∀ l, Kn S l → T l ≠ some .hid := fun l ⟨_, e, n⟩ => cl.nohid e n
mutual
theorem Vd.rdV (cl : Cells K H S T) : ∀ {x d : D} {u : V} {T' : Sto}, (∀ a, T' a = none → viewT (Kn S) T a = none) → Vd S x d → Rep K H T' u x → Rep K H (viewT (Kn S) T) u d
  | _, _, _, _, hT, .v, r => r.mk ⟨fun _ _ _ h => h, fun a s _ => hT a s⟩
  | _, _, _, _, hT, .c (l := l) h n k, r => by
    cases r
    refine Vd.rdV cl (T' := VS.del T l) (fun a e => ?_) k (cl.rep (cl.at h) (cl.nohid h n))
    by_cases z : a = l
    · subst z; exact viewT_in ⟨_, h, n⟩
    · rw [VS.del_ne z] at e; exact viewT_none e
  | _, _, _, _, hT, .lst h, r => by
    cases r with
    | lst s e r => exact .lst (hT _ s) e (VdL.rdV cl hT h r)
  | _, _, _, _, hT, .tup h, r => by
    cases r with
    | tup s e r => exact .tup (hT _ s) e (VdL.rdV cl hT h r)
    | tupK e r => exact .tupK e (VdL.rdV cl hT h r)
  | _, _, _, _, hT, .dK h, r => by
    cases r with
    | dK s e r => exact .dK (hT _ s) e (VdK.rdV cl hT h r)
  | _, _, _, _, hT, .ins h, r => by
    cases r with
    | ins s e r => exact .ins (hT _ s) e (VdF.rdV cl hT h r)
theorem VdL.rdV (cl : Cells K H S T) : ∀ {xs ds : List D} {us : List V} {T' : Sto}, (∀ a, T' a = none → viewT (Kn S) T a = none) → VdL S xs ds → RepL K H T' us xs → RepL K H (viewT (Kn S) T) us ds
  | _, _, _, _, _, .nil, r => by cases r; exact .nil
  | _, _, _, _, hT, .cons h t, r => by
    cases r with
    | cons r1 r2 => exact .cons (Vd.rdV cl hT h r1) (VdL.rdV cl hT t r2)
theorem VdK.rdV (cl : Cells K H S T) : ∀ {xs ds : List (Key × D)} {us : List (Key × V)} {T' : Sto}, (∀ a, T' a = none → viewT (Kn S) T a = none) → VdK S xs ds → RepK K H T' us xs → RepK K H (viewT (Kn S) T) us ds
  | _, _, _, _, _, .nil, r => by cases r; exact .nil
  | _, _, _, _, hT, .cons h t, r => by
    cases r with
    | cons r1 r2 => exact .cons (Vd.rdV cl hT h r1) (VdK.rdV cl hT t r2)
theorem VdF.rdV (cl : Cells K H S T) : ∀ {xs ds : List (Str × D)} {us : List (Str × V)} {T' : Sto}, (∀ a, T' a = none → viewT (Kn S) T a = none) → VdF S xs ds → RepF K H T' us xs → RepF K H (viewT (Kn S) T) us ds
  | _, _, _, _, _, .nil, r => by cases r; exact .nil
  | _, _, _, _, hT, .cons h t, r => by
    cases r with
    | cons r1 r2 => exact .cons (Vd.rdV cl hT h r1) (VdF.rdV cl hT t r2)
end
end
section
variable {c : Ctx} {ρ ρ' : Rho} {S : Sto} {F : D → Sto → Prop} {G : Bool → Sto → Prop}
structure VdR (S : Sto) (ρ ρ' : Rho) : Prop where
  len : ρ'.length = ρ.length
  at_ : ∀ (i : Nat) (d' : D), ρ'[i]? = some (some d') → ∃ d, ρ[i]? = some (some d) ∧ Vd S d d'
theorem VdR.refl : VdR S ρ ρ := ⟨rfl, fun _ d h => ⟨d, h, .v⟩⟩
theorem VdR.set (w : VdR S ρ ρ') (i : Nat) {d d' : D} (h : ρ[i]? = some (some d)) (hd : Vd S d d') : VdR S ρ (ρ'.set i (some d')) := ⟨by rw [List.length_set]; exact w.len, fun j e q => by
  by_cases z : i = j
  · subst z
    rw [List.getElem?_set_self (by rw [w.len]; exact (List.getElem?_eq_some_iff.mp h).1)] at q
    cases q
    exact ⟨d, h, hd⟩
  · rw [List.getElem?_set_ne z] at q
    exact w.at_ j e q⟩
theorem VdR.in {T : Sto} {σ : St} {H : Hp} (w : VdR S ρ ρ') (I : In c σ H ρ S T) : In c σ H ρ' noS (viewT (Kn S) T) := by
  have m := mv_view (H := H) (kn_hid I.cells)
  have cl := cells_view (V := Kn S) I.cells
  refine ⟨cl, fun i d' e => ?_, by rw [w.len]; exact I.len, (I.mv m cl).exc⟩
  obtain ⟨d, h, hv⟩ := w.at_ i d' e
  obtain ⟨v, h1, h2⟩ := I.slots i d h
  exact ⟨v, h1, hv.rdV I.cells (fun a e => viewT_none e) h2⟩
theorem ve_pureR {te : TE} (w : VdR S ρ ρ') (h : VE c te ρ' noS fun d _ => flatD d = true ∧ F d S) : VE c te ρ S F := fun T σ H I Q k => by
  refine h _ σ H (w.in I) Q fun v d S' T' H' m cl r ⟨f, q⟩ => ?_
  obtain ⟨m', cl'⟩ := view_back (kn_hid I.cells) I.cells m cl
  exact k v d S T H' m' cl' (rep_flat f r) q
theorem vt_pureR {tt : TT} (w : VdR S ρ ρ') (h : VT c tt ρ' noS fun b _ => G b S) : VT c tt ρ S G := fun T σ H I Q k => by
  refine h _ σ H (w.in I) Q fun b S' T' H' m cl q => ?_
  obtain ⟨m', cl'⟩ := view_back (kn_hid I.cells) I.cells m cl
  exact k b S T H' m' cl' q
end
end VS
namespace VS
open PySem L2 C8 PySem.Spec PyProof.Rows
/-! ### xs.index(x) of a list by value -/
section
variable {c : Ctx} {ρ : Rho} {S : Sto} {F : D → Sto → Prop}
theorem rm_indexV {y : D} {ds : List D} {x z : D} {j : Nat} (h : IsL S y ds) (h1 : flatD x = true) (h2 : ds.all flatD = true) (hj : ds[j]? = some z) (e : eqD z x = true) (no : ∀ (m : Nat) (z' : D), m < j → ds[m]? = some z' → eqD z' x = false) (q : F (.int (j : Nat)) S) :
    RM c (rIndex c.K) y [x] S F := fun T u us H cl r1 r2 Q k => by
  obtain ⟨a, xs, e0, hs, r⟩ := h.rd cl r1
  subst e0
  cases r2 with
  | cons hx t =>
    cases t
    obtain ⟨v, e1, e2⟩ := r.get hj
    refine ⟨a, xs, _, j, v, rfl, rfl, hs, by rw [flat_ok hx]; exact h1, by rw [r.flat]; exact h2, e1, by rw [eq_ok e2 hx]; exact e, fun m z' hm hz => ?_, k _ _ S T H Mv.refl cl (.int _) q⟩
    have hb : m < ds.length := by
      rw [← r.length]
      exact (List.getElem?_eq_some_iff.mp hz).1
    obtain ⟨v', f1, f2⟩ := r.get (List.getElem?_eq_getElem hb)
    rw [hz] at f1
    cases f1
    rw [eq_ok f2 hx]
    exact no m _ hm (List.getElem?_eq_getElem hb)
/-- the place of a text in a list of unlike texts -/
theorem rm_indexS {y : D} {ws : List Str} {z : Str} {j : Nat} (h : IsL S y (ws.map D.str)) (nd : ws.Nodup) (hj : ws[j]? = some z) (q : F (.int (j : Nat)) S) : RM c (rIndex c.K) y [.str z] S F := by
  have fl : (ws.map D.str).all flatD = true := by rw [List.all_map]; exact List.all_eq_true.mpr fun _ _ => rfl
  refine rm_indexV (j := j) (z := .str z) h rfl fl (by rw [List.getElem?_map, hj]; rfl) (by show (z == z) = true; exact beq_self_eq_true _) (fun m z' hm hz' => ?_) q
  rw [List.getElem?_map] at hz'
  cases em : ws[m]? with
  | none => rw [em] at hz'; cases hz'
  | some y' =>
    rw [em] at hz'
    cases hz'
    show (y' == z) = false
    rw [beq_eq_false_iff_ne]
    intro e
    subst e
    have := (List.getElem?_inj (List.getElem?_eq_some_iff.mp em).1 nd).mp (em.trans hj.symm)
    omega
end
end VS
namespace VS
open PySem L2 C8 PySem.Spec PyProof.Rows
/-! ### list(d), the keys texts -/
/-! ### a comprehension in a comprehension -/
end VS
namespace VS
open PySem L2 C8 PySem.Spec PyProof.Rows
/-! ### a module's dict of own defs, by texts -/
structure KDct (P : Program) (w : World) (K : PySem.W.Frag) (a : Addr) (kvs : List (Str × Addr)) : Prop where
  sys : (a == sysModules) = false
  nd : (kvs.map Prod.fst).Nodup
  ob : ∃ o es ep, K.lookup a = some o ∧ o.ExactDict ∧ o.data = .dict es ep ∧ KeysOf (PySem.strKind P w) es ∧ Pairs (PySem.strKind P w) es.toList (kvs.map fun x => (x.1, Value.ref x.2))
theorem KDct.map {P : Program} {w : World} {K : PySem.W.Frag} {a : Addr} {kvs : List (Str × Addr)} (h : KDct P w K a kvs) {hp : Heap} (i : K.In hp) : Heap.MapOf (PySem.strKind P w) hp a (valueAt (kvs.map fun x => (x.1, Value.ref x.2))) := by
  obtain ⟨o, es, ep, h1, h2, h3, h4, h5⟩ := h.ob
  refine Heap.DictOf.mapOf ⟨o, es, ep, i _ _ h1, h2, h3, h4, h5, ?_⟩
  rw [List.map_map]
  exact h.nd
theorem valueAt_map (z : Str) : ∀ kvs : List (Str × Addr), valueAt (kvs.map fun x => (x.1, Value.ref x.2)) z = (kvs.lookup z).map Value.ref
  | [] => rfl
  | (k, f) :: kvs => by
    have ih := valueAt_map z kvs
    unfold valueAt at ih ⊢
    rw [List.map_cons, List.find?_cons, List.lookup_cons]
    by_cases e : k = z
    · subst e
      simp
    · have e1 : (z == k) = false := by rw [beq_eq_false_iff_ne]; exact Ne.symm e
      simp only [e1, decide_eq_false e]
      exact ih
def rIxKD (a : Addr) (kvs : List (Str × Addr)) : R2 := fun x y H Q => x = .ref a ∧ ∃ z f, y = .str z ∧ kvs.lookup z = some f ∧ Q (.ref f) H
def rInKD (a : Addr) (kvs : List (Str × Addr)) (n : Bool) : R2 := fun x y H Q => y = .ref a ∧ ∃ z, x = .str z ∧ Q (.bl ((kvs.lookup z).isSome != n)) H
theorem ix_kd {X : Cx} {a : Addr} {kvs : List (Str × Addr)} (h : KDct X.prog X.w X.K a kvs) : IxR X (rIxKD a kvs) := by
  intro value slice pins s σ H x y v u Q I rx ry hr hs
  obtain ⟨rfl, z, f, rfl, e, q⟩ := hr
  cases (show v = Value.ref a from rx)
  obtain ⟨t, rfl⟩ : ∃ t, u = Value.str z t := ry
  have m := h.map I.kIn
  have ty : s.TypeIs (.ref a) "dict" := by
    obtain ⟨o, es, ep, h1, h2, h3, h4, h5⟩ := h.ob
    exact ⟨o, I.kIn _ _ h1, h2.1⟩
  refine subscriptTail_builtinR (x := .ref f) ty PySem.F.slot_dict_getitem.lookup (wpAny_getItem_of (knd := PySem.strKind X.prog X.w) (k := z) (v := .ref f) ?_ m ?_ ?_) hs
  · show Value.isStrOf z (Value.str z t) = true
    simp [Value.isStrOf]
  · rw [valueAt_map, e]; rfl
  · exact ⟨rfl, .ref f, H, I.tok _, rfl, q⟩
theorem op_notInKD {X : Cx} {a : Addr} {kvs : List (Str × Addr)} (h : KDct X.prog X.w X.K a kvs) : OpR X (compareOp .NotIn) (rInKD a kvs true) := by
  intro pins s σ H x y v u Q I rx ry hr
  obtain ⟨rfl, z, rfl, q⟩ := hr
  cases (show u = Value.ref a from ry)
  obtain ⟨t, rfl⟩ : ∃ t, v = Value.str z t := rx
  have m := h.map I.kIn
  refine wpAny_notIn_of (knd := PySem.strKind X.prog X.w) (k := z) ?_ h.sys m ?_
  · show Value.isStrOf z (Value.str z t) = true
    simp [Value.isStrOf]
  · rw [valueAt_map, show ((kvs.lookup z).map Value.ref).isSome = (kvs.lookup z).isSome by cases kvs.lookup z <;> rfl]
    refine ⟨.bl _, H, I.tok _, rfl, ?_⟩
    rw [show (!(kvs.lookup z).isSome) = ((kvs.lookup z).isSome != true) by cases (kvs.lookup z).isSome <;> rfl]
    exact q
def entK (w : World) (x : Str × Addr × Tok) : DictEntry := ⟨hashStr w x.1, .str x.1 x.2.2, .ref x.2.1⟩
theorem pairs_ents {P : Program} {w : World} : ∀ ents : List (Str × Addr × Tok), Pairs (PySem.strKind P w) (ents.map (entK w)) ((ents.map fun x => (x.1, x.2.1)).map fun x => (x.1, Value.ref x.2))
  | [] => .nil
  | (z, f, t) :: es => .cons (show Value.isStrOf z (Value.str z t) = true by simp [Value.isStrOf]) rfl (pairs_ents es)
theorem KDct.of {P : Program} {w : World} {K : PySem.W.Frag} {a : Addr} {ep : Nat} (ents : List (Str × Addr × Tok)) (h : K.lookup a = some ⟨.type "dict", none, .dict (ents.map (entK w)).toArray ep, #[]⟩) (nd : (ents.map Prod.fst).Nodup) (sy : (a == sysModules) = false) : KDct P w K a (ents.map fun x => (x.1, x.2.1)) := by
  refine ⟨sy, by rw [List.map_map]; exact nd, _, _, _, h, ⟨rfl, rfl, rfl⟩, rfl, fun e he => ?_, by rw [List.toList_toArray]; exact pairs_ents ents⟩
  have he : e ∈ ents.map (entK w) := by simpa using he
  obtain ⟨x, hx, rfl⟩ := List.mem_map.mp he
  exact ⟨x.1, (show Value.isStrOf x.1 (Value.str x.1 x.2.2) = true by simp [Value.isStrOf]), rfl⟩
section
variable {c : Ctx} {S : Sto} {F : D → Sto → Prop} {a : Addr} {kvs : List (Str × Addr)}
theorem rv_ixKD {z : Str} {f : Addr} (e : kvs.lookup z = some f) (q : F (.ref f) S) : RV c (rIxKD a kvs) (.ref a) (.str z) S F := fun T u w H cl r1 r2 Q k => by
  cases r1
  cases r2
  exact ⟨rfl, z, f, rfl, e, k _ _ S T H Mv.refl cl (.ref _) q⟩
theorem rv_inKD {z : Str} {n : Bool} (q : F (.bl ((kvs.lookup z).isSome != n)) S) : RV c (rInKD a kvs n) (.str z) (.ref a) S F := fun T u w H cl r1 r2 Q k => by
  cases r1
  cases r2
  exact ⟨rfl, z, rfl, k _ _ S T H Mv.refl cl (.bl _) q⟩
end
/-! ### sorted(xs, key=f): one of several f -/
end VS
namespace VS
open PySem L2 PySem.Spec PyProof.Rows
/-! ### max of three -/
end VS
namespace VS
open PySem L2 C8 PySem.Spec PyProof.Rows
/-! ### sorted of a list of texts -/
def rSortedS (K : PySem.W.Frag) : CR1 := fun vs H Q => ∃ (a : Addr) (ss : List Str), vs = [V.ref a] ∧ SqL K H a (ss.map V.str) ∧ ∀ (ss' : List Str) p, ss'.Perm ss → PyProof.Rows.sortedS ss' = true → H p = none → Q (.ref p) (upd H p (.lst (ss'.map V.str)))
theorem vals_strsAre {ss : List Str} {its : List Value} (h : Vals (ss.map V.str) its) : StrsAre its ss := by
  induction ss generalizing its with
  | nil => cases h; exact .nil
  | cons z ss ih =>
    cases h with
    | cons r t =>
      obtain ⟨tk, rfl⟩ := r
      exact .cons _ _ (ih t)
theorem strsAre_vals {ss : List Str} {its : List Value} (h : StrsAre its ss) : Vals (ss.map V.str) its := by
  induction h with
  | nil => exact .nil
  | cons _ _ _ ih => exact .cons ⟨_, rfl⟩ ih
theorem c_sortedS {X : Cx} : CallR X (.builtin "sorted") (rSortedS X.K) := by
  intro pins s σ H vs us Q I r h
  obtain ⟨a, ss, rfl, hs, q⟩ := h
  rw [Vals.ref1 r]
  obtain ⟨its, rv, hl, hz⟩ := I.list hs
  have hi := vals_strsAre rv
  refine sorted_strsAny hl.isList hi (by rw [← rv.length]; exact hz) fun out ss' h1 h2 h3 => ?_
  obtain ⟨ep, he'⟩ := PyProof.Rows.sortedAll_at s.heap its out
  have hlen : (ss'.map V.str).length ≤ sizeLine := by
    rw [List.length_map, h2.length_eq]
    rw [List.length_map] at hz
    exact hz
  exact ⟨.ref _, upd H (s.heap.objs.size + 1) (.lst (ss'.map V.str)), I.laid (t' := s.toks) (fun _ _ => PyProof.Rows.sortedAll_old) (Nat.le_succ _) ⟨hlen, _, ep, strsAre_vals h1, by rw [Array.toArray_toList]; exact he'⟩, rfl, q ss' _ h2 h3 (I.hok.fresh (Nat.le_succ _))⟩
section
variable {c : Ctx} {S : Sto} {F : D → Sto → Prop}
theorem rc_sortedS {x : D} {ss : List Str} (h : IsL S x (ss.map D.str)) (q : ∀ ss' : List Str, ss'.Perm ss → PyProof.Rows.sortedS ss' = true → F (.lst (ss'.map D.str)) S) : RC c (rSortedS c.K) [x] S F := fun T us H cl r Q k => by
  cases r with
  | cons h1 t =>
    cases t
    obtain ⟨a, xs, rfl, s, r⟩ := h.rd cl h1
    have e := r.strs
    subst e
    exact ⟨a, ss, rfl, s, fun ss' p h1 h2 hp => k _ _ S T _ (mv_new hp) (cl.new hp) (.lst (cl.free hp) upd_same RepL.ofStrs) (q ss' h1 h2)⟩
end
end VS
namespace VS
open PySem L2 C8 PySem.Spec PyProof.Rows
/-! ### sorted of a list of pairs of whole numbers -/
end VS
namespace VS
/-! ### pairs (number, place) sorted: the things sorted by the number, alike ones as they stood -/
end VS
namespace VS
open PySem L2 C8 PySem.Spec PyProof.Rows
/-! ### several lists known by reference, hidden for the time of a walk -/
theorem Mk.trans {S S1 S2 : Sto} {H H1 H2 : Hp} (a : Mk S H S1 H1) (b : Mk S1 H1 S2 H2) : Mk S H S2 H2 :=
  ⟨fun x o h1 h2 => b.keep x o (a.fresh x h1 (by rw [h2]; nofun)) (a.keep x o h1 h2), fun x h1 h2 => by
    cases e : H x with
    | none => exact absurd e h2
    | some o => exact b.fresh x (a.fresh x h1 h2) (by rw [a.keep x o h1 e]; nofun)⟩
end VS
namespace VS
open PySem L2 C8 PySem.Spec PyProof.Rows
/-! ### list.reverse; texts sorted, as the mergeSort of things by a text -/
def leS (a b : Str) : Prop := a.cps.toList ≤ b.cps.toList
theorem leS_anti {a b : Str} (h1 : leS a b) (h2 : leS b a) : a = b := by
  have e : a.cps.toList = b.cps.toList := List.le_antisymm h1 h2
  cases a
  cases b
  congr
  exact Array.toList_inj.mp e
theorem rising_pw : ∀ (r : List Str) (p : Str), PyProof.Rows.risingS p r = true → (p :: r).Pairwise leS
  | [], p, _ => List.pairwise_singleton ..
  | x :: r, p, h => by
    have h' : (!ltCps x.cps.toList p.cps.toList && PyProof.Rows.risingS x r) = true := h
    rw [Bool.and_eq_true, PyProof.Rows.ltCps_eq, Bool.not_eq_true', decide_eq_false_iff_not] at h'
    have hx : leS p x := List.not_lt.mp h'.1
    have ih := rising_pw r x h'.2
    rw [List.pairwise_cons]
    refine ⟨fun y hy => ?_, ih⟩
    rcases List.mem_cons.mp hy with rfl | hy
    · exact hx
    · exact List.le_trans hx ((List.pairwise_cons.mp ih).1 y hy)
theorem sortedS_pw {ss : List Str} (h : PyProof.Rows.sortedS ss = true) : ss.Pairwise leS := by
  cases ss with
  | nil => exact .nil
  | cons x r => exact rising_pw r x h
end VS
namespace VS
open PySem L2 C8 PySem.Spec PyProof.Rows
/-! ### max(xs, default=d); list(d.values()) -/
end VS
namespace VS
open PySem L2 C8 PySem.Spec PyProof.Rows
/-! ### for k in d, d a dict by value: it is locked meanwhile, where it is not locked as yet -/
theorem CellOk.ml {K : PySem.W.Frag} {S S' : Sto} {H H' : Hp} {a : Addr} (m : Ml S H S' H') (e : H' a = H a) : ∀ {d : D}, CellOk K H S a d → CellOk K H' S' a d
  | .lst _, ⟨xs, h, r⟩ => ⟨xs, by rw [e]; exact h, r.ml m⟩
  | .dK _, ⟨xs, h, r⟩ => ⟨xs, by rw [e]; exact h, r.ml m⟩
  | .ins _ _, ⟨dx, fs, h, r⟩ => ⟨dx, fs, by rw [e]; exact h, r.ml m⟩
  | .hid, ⟨o, h⟩ => ⟨o, by rw [e]; exact h⟩
theorem Cells.ml {K : PySem.W.Frag} {S T : Sto} {H H' : Hp} {a : Addr} (c : Cells K H S T) (s : T a = none) (m : Ml T H T H') (e : ∀ b, b ≠ a → H' b = H b) : Cells K H' S T :=
  ⟨c.ov, fun b d q => CellOk.ml m (e b (fun z => by subst z; rw [s] at q; cases q)) (c.ok b d q)⟩
theorem RepK.key {K : PySem.W.Frag} {H : Hp} {S : Sto} {k : Key} {v : V} : ∀ {vs : List (Key × V)} {ds : List (Key × D)} {i : Nat}, RepK K H S vs ds → vs[i]? = some (k, v) → ∃ d, ds[i]? = some (k, d)
  | _, _, _, .nil, e => by simp at e
  | _, _, 0, .cons _ _, e => by simp at e; obtain ⟨rfl, _⟩ := e; exact ⟨_, rfl⟩
  | _, _, i + 1, .cons _ t, e => by simpa using RepK.key (i := i) t (by simpa using e)
end VS
namespace VS
open PySem L2 C8 PySem.Spec PyProof.Rows
/-! ### [e for k in d if t], d a dict by value -/
end VS
namespace VS
open PySem L2
/-! ### some cells are known by value from now on -/
section
variable {K : PySem.W.Frag} {H : Hp} {S T : Sto} {A : Addr → Prop}
open Classical in
noncomputable def cutA (A : Addr → Prop) (T : Sto) : Sto := fun b => if A b then none else T b
open Classical in
noncomputable def onlyA (A : Addr → Prop) (T : Sto) : Sto := fun b => if A b then T b else none
theorem cutA_in {a : Addr} (h : A a) : cutA A T a = none := if_pos h
theorem cutA_out {a : Addr} (h : ¬ A a) : cutA A T a = T a := if_neg h
theorem cutA_none {a : Addr} (h : T a = none) : cutA A T a = none := by
  unfold cutA
  split
  · rfl
  · exact h
theorem onlyA_in {a : Addr} (h : A a) : onlyA A T a = T a := if_pos h
theorem onlyA_some {a : Addr} {d : D} (e : onlyA A T a = some d) : A a ∧ T a = some d := by
  unfold onlyA at e
  split at e
  · rename_i h; exact ⟨h, e⟩
  · cases e
theorem cutA_some {a : Addr} {d : D} (e : cutA A T a = some d) : ¬ A a ∧ T a = some d := by
  unfold cutA at e
  split at e
  · cases e
  · rename_i h; exact ⟨h, e⟩
theorem mv_cut (hA : ∀ a, A a → T a ≠ some .hid) : Mv T H (cutA A T) H :=
  ⟨⟨fun _ _ _ h => h, fun _ s _ => cutA_none s⟩, fun a o s e => ⟨e, by rw [cutA_out (fun z => hA a z s)]; exact s⟩⟩
theorem Cells.cut (cl : Cells K H S T) (hA : ∀ a, A a → T a ≠ some .hid) : Cells K H (cutA A S) (cutA A T) := by
  refine ⟨fun a => ?_, fun a d e => ?_⟩
  · by_cases z : A a
    · exact .inl ⟨by rw [cutA_in z, cutA_in z], by rw [cutA_in z]; nofun⟩
    · rw [cutA_out z, cutA_out z]; exact cl.ov a
  · exact CellOk.mk (mv_cut hA).toMk rfl (cl.ok a d (cutA_some e).2)
mutual
theorem Vd.rdA (cl : Cells K H S T) (hA : ∀ a, A a → T a ≠ some .hid) : ∀ {x d : D} {u : V} {T' : Sto}, (∀ a, T' a = none → cutA A T a = none) → Vd (onlyA A S) x d → Rep K H T' u x → Rep K H (cutA A T) u d
  | _, _, _, _, hT, .v, r => r.mk ⟨fun _ _ _ h => h, fun a s _ => hT a s⟩
  | _, _, _, _, hT, .c (l := l) h n k, r => by
    cases r
    obtain ⟨hl, h⟩ := onlyA_some h
    refine Vd.rdA cl hA (T' := VS.del T l) (fun a e => ?_) k (cl.rep (cl.at h) (cl.nohid h n))
    by_cases z : a = l
    · subst z; exact cutA_in hl
    · rw [VS.del_ne z] at e; exact cutA_none e
  | _, _, _, _, hT, .lst h, r => by
    cases r with
    | lst s e r => exact .lst (hT _ s) e (VdL.rdA cl hA hT h r)
  | _, _, _, _, hT, .tup h, r => by
    cases r with
    | tup s e r => exact .tup (hT _ s) e (VdL.rdA cl hA hT h r)
    | tupK e r => exact .tupK e (VdL.rdA cl hA hT h r)
  | _, _, _, _, hT, .dK h, r => by
    cases r with
    | dK s e r => exact .dK (hT _ s) e (VdK.rdA cl hA hT h r)
  | _, _, _, _, hT, .ins h, r => by
    cases r with
    | ins s e r => exact .ins (hT _ s) e (VdF.rdA cl hA hT h r)
theorem VdL.rdA (cl : Cells K H S T) (hA : ∀ a, A a → T a ≠ some .hid) : ∀ {xs ds : List D} {us : List V} {T' : Sto}, (∀ a, T' a = none → cutA A T a = none) → VdL (onlyA A S) xs ds → RepL K H T' us xs → RepL K H (cutA A T) us ds
  | _, _, _, _, _, .nil, r => by cases r; exact .nil
  | _, _, _, _, hT, .cons h t, r => by
    cases r with
    | cons r1 r2 => exact .cons (Vd.rdA cl hA hT h r1) (VdL.rdA cl hA hT t r2)
theorem VdK.rdA (cl : Cells K H S T) (hA : ∀ a, A a → T a ≠ some .hid) : ∀ {xs ds : List (Key × D)} {us : List (Key × V)} {T' : Sto}, (∀ a, T' a = none → cutA A T a = none) → VdK (onlyA A S) xs ds → RepK K H T' us xs → RepK K H (cutA A T) us ds
  | _, _, _, _, _, .nil, r => by cases r; exact .nil
  | _, _, _, _, hT, .cons h t, r => by
    cases r with
    | cons r1 r2 => exact .cons (Vd.rdA cl hA hT h r1) (VdK.rdA cl hA hT t r2)
theorem VdF.rdA (cl : Cells K H S T) (hA : ∀ a, A a → T a ≠ some .hid) : ∀ {xs ds : List (Str × D)} {us : List (Str × V)} {T' : Sto}, (∀ a, T' a = none → cutA A T a = none) → VdF (onlyA A S) xs ds → RepF K H T' us xs → RepF K H (cutA A T) us ds
  | _, _, _, _, _, .nil, r => by cases r; exact .nil
  | _, _, _, _, hT, .cons h t, r => by
    cases r with
    | cons r1 r2 => exact .cons (Vd.rdA cl hA hT h r1) (VdF.rdA cl hA hT t r2)
end
end
section
variable {c : Ctx} {ρ ρ' : Rho} {S : Sto} {F : D → Sto → Prop} {P : Po}
/-- what stands in the cells of A is by value from here on; they are known no more -/
theorem vx_see (A : Addr → Prop) {t : TS} (hA : ∀ a, A a → ∃ d, S a = some d ∧ d ≠ .hid) (w : VdR (onlyA A S) ρ ρ') (h : VX c t ρ' (cutA A S) P) : VX c t ρ S P := fun T σ H I D b => by
  have nh : ∀ a, A a → T a ≠ some .hid := fun a z => let ⟨_, e, n⟩ := hA a z; I.cells.nohid e n
  have m := mv_cut (H := H) nh
  have cl := I.cells.cut nh
  refine h _ σ H ⟨cl, fun i d' e => ?_, by rw [w.len]; exact I.len, (I.mv m cl).exc⟩ D (b.mv m)
  obtain ⟨d, h1, hv⟩ := w.at_ i d' e
  obtain ⟨v, h2, h3⟩ := I.slots i d h1
  exact ⟨v, h2, hv.rdA I.cells nh (fun a e => cutA_none e) h3⟩
theorem ext_cut {S0 : Sto} {A : Addr → Prop} (x : Ext S0 S) (h : ∀ a, A a → S0 a = none) : Ext S0 (cutA A S) := fun a d e => by
  rw [cutA_out (fun z => by rw [h a z] at e; cases e)]
  exact x a d e
end
end VS
namespace VS
open PySem L2 C8 PySem.Spec PyProof.Rows
/-! ### d != {}, d == {} -/
end VS
namespace VS
open PySem L2 C8 PySem.Spec PyProof.Rows
/-! ### k not in d, len(d) -/
section
variable {c : Ctx} {ρ : Rho} {S : Sto} {F : D → Sto → Prop}
/-- the greatest one of a list -/
theorem rc_maxL {ns : List Int} {x : D} (h : IsL S x (ns.map D.int)) (ne : ns ≠ []) (q : ∀ m, m ∈ ns → (∀ y ∈ ns, y ≤ m) → F (.int m) S) : RC c (rMax c.K) [x] S F := fun T us H cl r Q k => by
  cases r with
  | cons h1 t =>
    cases t
    obtain ⟨a, xs, rfl, s, r⟩ := h.rd cl h1
    have e := r.ints
    subst e
    exact ⟨a, ns, rfl, s, List.length_pos_iff.mpr ne, fun m hm hle => k _ _ S T H Mv.refl cl (.int _) (q m hm hle)⟩
end
end VS
namespace VS
open PySem L2 C8 PySem.Spec PyProof.Rows
/-! ### how long a shown dict is -/
structure ShK (xs : List (Key × D)) (n k : Nat) : Prop where
  p : isPK xs = true
  s : PyData.showableKv (pdK xs) = true
  l : piled (PyData.shownKv (pdK xs)) ≤ n
  d : PyData.depthKv (pdK xs) ≤ k
theorem ShK.nil : ShK [] 0 0 := ⟨rfl, rfl, Nat.le_refl _, Nat.le_refl _⟩
theorem ShK.cons {z : Str} {d : D} {ds : List (Key × D)} {n a b i j : Nat} (hz : Asc n z) (h : Sh d a i) (t : ShK ds b j) : ShK ((.inr z, d) :: ds) (10 * n + a + 6 + b) (max i j) := ⟨by
  show (isP d && isPK ds) = true
  rw [h.p, t.p]; rfl, by
  show (true && (pd d).showable && PyData.showableKv (pdK ds)) = true
  rw [h.s, t.s]; rfl, by
  show ((reprText z ++ ": " ++ (pd d).shown).length + 2) + piled (PyData.shownKv (pdK ds)) ≤ _
  have := h.l
  have := t.l
  have e := lit1
  have q : (reprText z).length ≤ 10 * n + 2 := (Sh.str hz).l
  rw [len_add, len_add]
  omega, by
  show max (max 0 (pd d).depth) (PyData.depthKv (pdK ds)) ≤ _
  have := h.d
  have := t.d
  omega⟩
theorem Sh.dic {xs : List (Key × D)} {n k : Nat} (h : ShK xs n k) : Sh (.dK xs) (n + 2) (k + 1) := ⟨h.p, h.s, by
  show (dictText (PyData.shownKv (pdK xs))).length ≤ _
  have := join_len (PyData.shownKv (pdK xs))
  have := h.l
  have e := lit1
  unfold dictText
  rw [len_add, len_add]
  omega, Nat.succ_le_succ h.d⟩
end VS
namespace VS
open PySem L2 C8 PySem.Spec PyProof.Rows
/-! ### defs that call themselves; a local name that holds one of some defs -/
section
variable {P : Program} {w : World} {K : PySem.W.Frag} {mg : Str → Option Value} {base : Heap} {CX : CXT} {k : Nat} {x : Str} {st : Stmt} {dvs : List V} {f : Addr} {fd : FuncData} {ps : List Str}
/-- a def with its promise, whatever its text -/
structure HeldG (P : Program) (w : World) (K : PySem.W.Frag) (mg : Str → Option Value) (base : Heap) (k : Nat) (f : Addr) (p : Pt) : Prop where
  ex : ∃ (j : Nat) (fd : FuncData) (ps : List Str), j ≤ k ∧ FnG P w K mg base (L2.CX P w) j f fd ps (spOf K p) ∧ PySem.W.keepIn K (.ref f) = true ∧ Binds K fd ps []
theorem Cf.held {p : Pt} {j : Nat} (c : Cf P w K mg base (L2.CX P w) j x st [] ps p f fd) (h : j ≤ k) : HeldG P w K mg base k f p := ⟨j, fd, ps, h, c.fn, c.kp, c.b⟩
theorem held_nil : ∀ z ∈ ([] : List (Addr × Pt)), HeldG P w K mg base k z.1 z.2 := fun _ h => nomatch h
theorem held_cons {p : Pt} {fs : List (Addr × Pt)} (h : HeldG P w K mg base k f p) (t : ∀ z ∈ fs, HeldG P w K mg base k z.1 z.2) : ∀ z ∈ (f, p) :: fs, HeldG P w K mg base k z.1 z.2 := fun z hz => by
  rcases List.mem_cons.mp hz with rfl | hz
  · exact h
  · exact t z hz
end
def tCallAG (K : PySem.W.Frag) (i : Nat) (fs : List (Addr × Pt)) (t : TA) : TE := fun σ H Q => ∃ f p, σ[i]? = some (some (.ref f)) ∧ (f, p) ∈ fs ∧ t σ H fun vs H1 => spOf K p vs H1 Q (fun _ _ _ => False)
section
variable {X : Cx} {k i : Nat} {x : Str} {p pos : Pos} {e : Expr} {es : List Expr} {t : TA}
theorem pe_cLG {fs : List (Addr × Pt)} (A : ∀ z ∈ fs, HeldG X.prog X.w X.K X.mg X.base k z.1 z.2) (hgd : X.A.guards = some []) (hr : Room k X.A) (hN : X.N[i]? = some x) (hv : Vis X.env.scope x) (ha : PA X (e :: es) t)
    (hdb : (x == ("__debug__" : Str)) = false := by decide) (hcd : (x == ("__classdict__" : Str)) = false := by decide)
    (he : starEach (e :: es) X.env = (false, eval e X.env) :: starEach es X.env := by rfl) (hpl : (backTo pos (starEach es X.env)).any (·.1) = false := by rfl) : PE X (.Call (.Name x p) (e :: es) [] pos) (tCallAG X.K i fs t) := by
  refine ⟨fun pins s σ H Q I h => ?_⟩
  obtain ⟨f, pp, hs, hm, ht⟩ := h
  obtain ⟨j, fd, ps, hj, F, hk, hb⟩ := (A _ hm).ex
  refine wpAny_Call_Name_kw (thn ((pe_var (pos := p) hN hv hdb hcd).run pins s σ H (fun v H1 => v = .ref f ∧ H1 = H) I ⟨.ref f, hs, rfl, rfl⟩) fun u s1 ⟨v, H1, I1, r1, q1⟩ => ?_)
  obtain ⟨rfl, rfl⟩ := q1
  cases r1
  refine PySem.W.callWith_K (h₀ := X.base) I.ok.mod.kin hk (thn (ha.run pos pins s1 σ _ _ I1 ht) fun us s2 ⟨vs, H2, I2, r, q⟩ => ⟨I2.kIn, ?_⟩) he hpl
  have ll : (vs ++ []).length = ps.length := by rw [List.append_nil]; exact F.len _ _ _ _ q
  have bt := bindsAt hb .nil I2.kIn r ll
  rw [List.append_nil] at bt
  exact callG F hgd (hr.mono hj) bt (pass0 (X := X)) I2 r q
end
section
variable {c : Ctx} {ρ : Rho} {S : Sto} {F : D → Sto → Prop}
theorem ve_cLG {i : Nat} {fs : List (Addr × Pt)} {t : TA} {f : Addr} {p : Pt} (hv : ρ[i]? = some (some (.ref f))) (hm : (f, p) ∈ fs) (h : VA c t ρ S fun ds S1 => p ds S1 F noY) : VE c (tCallAG c.K i fs t) ρ S F := fun T σ H I Q k => by
  obtain ⟨v, hs, r⟩ := I.slots i _ hv
  cases r
  exact ⟨f, p, hs, hm, h T σ H I _ fun us ds S1 T1 H1 m1 c1 r1 h1 => ⟨ds, S1, T1, F, noY, r1, c1, h1, fun v d S2 T2 H2 m2 c2 r2 q => k v d S2 T2 H2 (m1.trans m2) c2 r2 q, fun _ _ _ _ _ _ _ _ _ z => z.elim⟩⟩
end
end VS
namespace VS
open PySem L2 C8 PySem.Spec PyProof.Rows
/-! ### xs.remove(x), flat items -/
end VS
namespace VS
open PySem L2 C8 PySem.Spec PyProof.Rows
/-! ### a dict's keys as a list known by reference; lists of lists seen by value -/
/-- lists known by reference, one by one -/
structure Rws (S : Sto) (as : List Addr) (yss : List (List D)) : Prop where
  l : as.length = yss.length
  at_ : ∀ (j : Nat) (a : Addr) (ys : List D), as[j]? = some a → yss[j]? = some ys → S a = some (.lst ys)
theorem Rws.nil {S : Sto} : Rws S [] [] := ⟨rfl, nofun⟩
theorem Rws.ge {S : Sto} {as : List Addr} {yss : List (List D)} (h : Rws S as yss) {j : Nat} (hj : j < yss.length) : ∃ a ys, as[j]? = some a ∧ yss[j]? = some ys ∧ S a = some (.lst ys) := by
  have e1 : as[j]? = some (as[j]'(by rw [h.l]; exact hj)) := List.getElem?_eq_getElem _
  have e2 : yss[j]? = some (yss[j]'hj) := List.getElem?_eq_getElem _
  exact ⟨_, _, e1, e2, h.at_ j _ _ e1 e2⟩
theorem Rws.mem {S : Sto} {as : List Addr} {yss : List (List D)} (h : Rws S as yss) {a : Addr} (ha : a ∈ as) : ∃ ys ∈ yss, S a = some (.lst ys) := by
  obtain ⟨j, hj⟩ := List.getElem?_of_mem ha
  obtain ⟨b, ys, e1, e2, e3⟩ := h.ge (j := j) (by rw [← h.l]; exact (List.getElem?_eq_some_iff.mp hj).1)
  rw [hj] at e1
  cases e1
  exact ⟨ys, List.mem_of_getElem? e2, e3⟩
theorem Rws.ext {S S' : Sto} {as : List Addr} {yss : List (List D)} (h : Rws S as yss) (x : Ext S S') : Rws S' as yss := ⟨h.l, fun j a ys e1 e2 => x _ _ (h.at_ j a ys e1 e2)⟩
theorem Rws.free {S : Sto} {as : List Addr} {yss : List (List D)} (h : Rws S as yss) {a : Addr} (ha : S a = none) : a ∉ as := fun z => by
  obtain ⟨ys, _, e⟩ := h.mem z
  rw [e] at ha
  cases ha
theorem Rws.new {S : Sto} {as : List Addr} {yss : List (List D)} (h : Rws S as yss) {a : Addr} {ys : List D} (ha : S a = none) : Rws (put S a (.lst ys)) (as ++ [a]) (yss ++ [ys]) := by
  refine ⟨by rw [List.length_append, List.length_append, h.l]; rfl, fun j b zs e1 e2 => ?_⟩
  by_cases hj : j < as.length
  · rw [List.getElem?_append_left hj] at e1
    rw [List.getElem?_append_left (by rw [← h.l]; exact hj)] at e2
    rw [put_ne (fun z => h.free ha (by rw [← z]; exact List.mem_of_getElem? e1))]
    exact h.at_ j b zs e1 e2
  · rw [List.getElem?_append_right (by omega)] at e1
    rw [List.getElem?_append_right (by rw [← h.l]; omega)] at e2
    obtain ⟨d, hd⟩ : ∃ d, d = j - as.length := ⟨_, rfl⟩
    rw [← hd] at e1
    rw [← h.l, ← hd] at e2
    cases d with
    | zero => cases e1; cases e2; exact put_same
    | succ d => cases e1
theorem Rws.wr {S : Sto} {as : List Addr} {yss : List (List D)} (h : Rws S as yss) (nd : as.Nodup) {i : Nat} {a : Addr} {ys : List D} (e : as[i]? = some a) : Rws (put S a (.lst ys)) as (yss.set i ys) := by
  have hi := (List.getElem?_eq_some_iff.mp e).1
  refine ⟨by rw [List.length_set]; exact h.l, fun j b zs e1 e2 => ?_⟩
  by_cases z : j = i
  · subst z
    rw [List.getElem?_set_self (by rw [← h.l]; exact hi)] at e2
    rw [e] at e1
    cases e1; cases e2
    exact put_same
  · rw [List.getElem?_set_ne (Ne.symm z)] at e2
    rw [put_ne (fun w => z ((List.getElem?_inj (List.getElem?_eq_some_iff.mp e1).1 nd).mp (by rw [e1, w, e])))]
    exact h.at_ j b zs e1 e2
end VS
namespace VS
open PySem L2 C8 PySem.Spec PyProof.Rows
/-! ### range(i, j, -1); list(range(n)) -/
end VS
namespace VS
open PySem L2 C8 PySem.Spec PyProof.Rows
end VS
namespace VS
open PySem L2 PySem.Spec PyProof.Rows PySem.VSX
/-! ### an own exception of two fields: its class, its making, raise -/
/-- what __init__ keeps: self.f = v; self.g = u -/
def spXi2 (C : Addr) (f g : Str) : Sp := fun vs H Q _ => ∃ (a : Addr) (v u : V), vs = [.ref a, v, u] ∧ H a = some (exo a C none) ∧ ∀ dx, H dx = none → dx ≠ a → Q .non (upd (upd H dx (exd dx [(g, u), (f, v)])) a (exo a C (some dx)))
def tRz2 (C : Addr) (f g : Str) (te tu : TE) (W : L2.St → XK) : TS := fun _ σ H => tMkO C (spXi2 C f g) [] (tCons te (tCons tu tNil)) σ H fun cls d H' => W σ cls d H'
section
variable {c : Ctx} {ρ : Rho} {S : Sto} {P : Po}
theorem xd_heap2 {H1 : Hp} {a C dx : Addr} {fs : List (Str × V)} (ha : H1 a = none) : upd (L2.del (upd (upd (upd H1 a (exo a C none)) dx (exd dx fs)) a (exo a C (some dx))) a) dx (.xd fs) = upd H1 dx (.xd fs) := by
  funext b
  by_cases z : b = dx
  · subst z; rw [upd_same, upd_same]
  · rw [upd_ne z, upd_ne z]
    by_cases y : b = a
    · subst y; rw [L2.del_same, ha]
    · rw [L2.del_ne y, upd_ne y, upd_ne z, upd_ne y]
theorem vx_raise2 {C : Addr} {f g : Str} {te tu : TE} (h : VE c te ρ S fun x S1 => VE c tu ρ S1 fun y S2 => c.Y C [(g, y), (f, x)] ρ S2) : VX c (tRz2 C f g te tu c.E) ρ S P := fun T σ H I D b =>
  h T σ H I _ fun v x S1 T1 H1 m1 c1 r1 h2 => h2 T1 σ H1 (I.mv m1 c1) _ fun u y S2 T2 H2 m2 c2 r2 q => by
    refine ⟨(by decide : 2 ≤ 1000), fun a na => ⟨a, v, u, rfl, upd_same, fun dx hdx ne => ⟨rfl, dx, [(g, u), (f, v)], upd_same, ?_, ?_, ?_⟩⟩⟩
    · rw [upd_ne ne, upd_same]
    · rw [upd_ne ne] at hdx; exact hdx
    · have hd : H2 dx = none := by rw [upd_ne ne] at hdx; exact hdx
      rw [xd_heap2 na]
      have mm := m1.trans m2
      have m3 := mm.trans (mv_new (o := .xd [(g, u), (f, v)]) hd)
      have cl := c2.new (o := .xd [(g, u), (f, v)]) hd
      exact I.exc σ ρ C (some dx) [(g, y), (f, x)] S2 T2 _ m3 cl (I.mv m3 cl).sl ⟨dx, [(g, u), (f, v)], rfl, c2.free hd, upd_same, .cons (r2.mv (mv_new hd)) (.cons ((r1.mv m2).mv (mv_new hd)) .nil)⟩ q
end
end VS
namespace VS
open PySem L2 PySem.Spec PyProof.Rows
/-! ### a comprehension over a list or a tuple that is a list known by reference -/
section
variable {c : Ctx} {ρ : Rho} {S : Sto} {F : D → Sto → Prop}
theorem ve_lcCellSq {g : TG} {tt : TT} {te : TE} {vs : List Nat} {ti : TE} {l : Addr} {ds : List D} (hv : VE c ti ρ (VS.del S l) fun x S1 => x = .ref l ∧ S1 = VS.del S l) (hl : S l = some (.lst ds)) (hz : ds.length ≤ 100000) (W : Nat → List D → Sto → Prop) (h0 : W 0 [] (VS.del S l))
    (hs : ∀ (i : Nat) (d : D) acc S2, ds[i]? = some d → W i acc S2 → acc.length ≤ i → VGw c vs g d (wipeR ρ vs) S2 fun ρ3 S3 => VT c tt ρ3 S3 fun b S4 => (b = true → VE c te ρ3 S4 fun y S5 => W (i + 1) (acc ++ [y]) S5) ∧ (b = false → W (i + 1) acc S4))
    (hd : ∀ acc S2, W ds.length acc S2 → acc.length ≤ ds.length → F (.lst acc) (put S2 l (.lst ds))) : VE c (tLc (iSeqA c.K ti) g tt te vs) ρ S F := fun T σ H I Q k => by
  have ht := I.cells.at hl
  obtain ⟨xs, hx, r⟩ := I.cells.ok _ _ ht
  have m0 : Mv T H (put T l .hid) H := mv_hide ht (by nofun)
  have c0 := I.cells.hide hl hx
  have I0 : In c σ H ρ (VS.del S l) (put T l .hid) := I.mv m0 c0
  refine lc_heartAt (R := fun acc S2 => F (.lst acc) (put S2 l (.lst ds))) (fun R kR => ?_) I0 fun p ys acc S' T' H' T1 H1 m1 m cl s n hp rr q => ?_
  · refine hv _ σ H I0 _ fun vx x S1 T1 H1 m1 c1 r1 ⟨e1, e2⟩ => ?_
    subst e1 e2
    cases r1
    obtain ⟨hx1, s1⟩ := m1.hid l _ put_same hx
    have rx : RepL c.K H1 T1 xs ds := (r.mk m0.toMk).mv m1
    have hq : ∀ T2 H2, Mv T1 H1 T2 H2 → SqL c.K H2 l xs := fun T2 H2 m2 => .inl (.inl (m2.hid l _ s1 hx1).1)
    exact ⟨l, rfl, .inl ⟨⟨xs, .inl (.inl hx1)⟩, kR _ ds _ T1 H1 m1 c1 (yl_list hq rx) ⟨hz, W, h0, hs, hd⟩⟩⟩
  · have mm := m1.trans m
    obtain ⟨hx', s'⟩ := mm.hid l _ put_same hx
    obtain ⟨hx1, _⟩ := m1.hid l _ put_same hx
    have npl : l ≠ p := fun z => by subst z; rw [n] at hx1; cases hx1
    have rx : RepL c.K H' T' xs ds := (r.mk m0.toMk).mv mm
    have s2 : (VS.del T' p) l = some .hid := by rw [VS.del_ne npl]; exact s'
    have c2 := (cl.unhid s).show s2 hx' (rx.mk (mk_show s))
    have mk2 : Mk (VS.del T' p) H' (put (VS.del T' p) l (.lst ds)) H' := by
      refine ⟨fun _ _ _ h => h, fun a u1 _ => ?_⟩
      have nal : a ≠ l := fun z => by rw [z, s2] at u1; cases u1
      rw [put_ne nal]
      exact u1
    have m3 : Mv T H (put (VS.del T' p) l (.lst ds)) H' := by
      have ma := m0.trans mm
      refine ⟨⟨ma.keep, fun a u e => ?_⟩, fun a o u e => ?_⟩
      · have nal : a ≠ l := fun z => by subst z; rw [ht] at u; cases u
        rw [put_ne nal]
        unfold VS.del
        split
        · rfl
        · exact ma.fresh a u e
      · obtain ⟨e1, e2⟩ := ma.hid a o u e
        refine ⟨e1, ?_⟩
        have nal : a ≠ l := fun z => by subst z; rw [ht] at u; cases u
        have nap : a ≠ p := fun z => by
          subst z
          obtain ⟨e3, _⟩ := (m0.trans m1).hid a o u e
          rw [n] at e3; cases e3
        rw [put_ne nal, VS.del_ne nap]
        exact e2
    exact k _ (.lst acc) _ _ H' m3 c2 (.lst (by rw [put_ne (Ne.symm npl)]; exact del_same) hp ((rr.mk (mk_show s)).mk mk2)) q
/-- .. all of it by f -/
theorem ve_lcCellSqM (f : D → D) {g : TG} {tt : TT} {te : TE} {vs : List Nat} {ti : TE} {l : Addr} {ds : List D} (hv : VE c ti ρ (VS.del S l) fun x S1 => x = .ref l ∧ S1 = VS.del S l) (hl : S l = some (.lst ds)) (hz : ds.length ≤ 100000)
    (hs : ∀ d ∈ ds, VGw c vs g d (wipeR ρ vs) (VS.del S l) fun ρ3 S3 => VT c tt ρ3 S3 fun b S4 => b = true ∧ VE c te ρ3 S4 fun y S5 => y = f d ∧ S5 = VS.del S l) (hd : F (.lst (ds.map f)) S) : VE c (tLc (iSeqA c.K ti) g tt te vs) ρ S F := by
  refine ve_lcCellSq hv hl hz (fun i acc S2 => acc = (ds.take i).map f ∧ S2 = VS.del S l) ⟨rfl, rfl⟩ ?_ ?_
  · rintro i d acc S2 hd' ⟨e1, rfl⟩ _ T0 u0 σ0 H0 I0 r0 Q0 k0
    refine hs d (List.mem_of_getElem? hd') T0 u0 σ0 H0 I0 r0 Q0 fun σ' ρ' S' T' H' hw m I' q => k0 σ' ρ' S' T' H' hw m I' ?_
    refine q.imp fun b S4 ⟨hb, hv⟩ => ?_
    subst hb
    have tk : ds.take (i + 1) = ds.take i ++ [d] := by rw [List.take_succ, hd']; rfl
    exact ⟨fun _ => hv.imp fun y S5 ⟨e2, e3⟩ => ⟨by rw [tk, List.map_append, e1, e2]; rfl, e3⟩, fun z => by cases z⟩
  · rintro acc S2 ⟨rfl, rfl⟩ _
    rw [List.take_length, put_back hl]
    exact hd
end
end VS
namespace VS
open PySem L2 C8 PySem.Spec PyProof.Rows
/-- a list so many times, by reference -/
theorem rv_repc {c : Ctx} {S : Sto} {F : D → Sto → Prop} {x : D} {ds : List D} {k : Int} (h : IsA S x ds) (h0 : 0 ≤ k) (h1 : k < 2 ^ 63) (hl : ds.length * k.toNat ≤ sizeLine) (q : ∀ p, S p = none → F (.ref p) (put S p (.lst (List.replicate k.toNat ds).flatten))) : RV c rRep x (.int k) S F := fun T u w H cl r1 r2 Q kk => by
  obtain ⟨a, xs, rfl, s, r⟩ := h.rd cl r1
  cases r2
  exact ⟨a, k, xs, rfl, rfl, s, by omega, h1, by rw [r.length]; exact hl, fun p hp => kk _ _ _ _ _ (mv_newc hp) (cl.newc hp (cell_l upd_same ((r.rep _).mv (mv_newc hp)))) (.ref p) (q p (cl.freeS hp))⟩
end VS
open PySem L2 C8 PySem.Spec PyProof.Rows VS
local macro_rules | `(tactic| walk_at "g1") => `(tactic| with_reducible first
  | refine vx_seq ?_ | refine vx_next ?_ | refine vx_asg ?_ | refine vx_drop ?_ | refine vx_ret ?_ | refine vx_retN ?_ | refine vx_if ?_ | refine vx_break ?_ | refine vx_cont ?_ | refine vx_fld ?_
  | refine ve_int ?_ | refine ve_bl ?_ | refine ve_str ?_ | refine ve_non ?_ | refine ve_ty ?_ | refine ve_op ?_ | refine ve_un ?_ | refine ve_cb ?_ | refine ve_tup ?_
  | refine ve_if ?_ | refine ve_andV ?_ | refine ve_orV ?_ | refine ve_notV ?_ | refine ve_chain ?_ | refine ve_m1 ?_ | refine ve_m0 ?_ | refine ve_bm ?_ | refine ve_bm0 ?_ | refine ve_sl ?_ | refine ve_fld ?_
  | refine va_nil ?_ | refine va_cons ?_ | refine vo_none ?_ | refine vo_some ?_
  | refine vt_test ?_ | refine vt_B ?_ | refine vt_and ?_ | refine vt_or ?_ | refine vt_not ?_ | refine vt_yes ?_
  | refine vg_name ?_ | refine vg_subL ?_ | refine ex_ref ?_ | refine vgw_name (by simp) ?_ | refine vgs_nil ?_ | refine vgs_cons ?_ | refine vgws_nil ?_ | refine vgws_cons ?_
  | refine rv_II ?_ | refine rv_IB ?_ | refine rv_isNo ?_ | refine rv_notNo ?_ | refine rv_inS ?_ | refine rv_notInS ?_ | refine rv_ltS ?_ | refine rv_leS ?_
  | refine rc_max2 ?_ | refine rc_min2 ?_ | refine rc_int ?_ | refine rc_intB ?_ | refine rc_ord ?_ | refine rc_abs ?_ | refine ru_I ?_
  | refine ex_bl ?_ | refine ex_str ?_ | refine ex_int ?_)
local macro_rules | `(tactic| walk_at "g2") => `(tactic| first
  | ((with_reducible apply ve_var); · rfl)
  | ((with_reducible refine brT ?_ ?_); · rfl)
  | ((with_reducible refine brF ?_ ?_); · rfl)
  | ((with_reducible apply rv_eq); · rfl)
  | ((with_reducible apply rv_ne); · rfl)
  | ((with_reducible refine rc_lenS ?_ ?_); (· first | assumption | (have q := szl; omega)))
  | ((with_reducible refine rv_IC ?_ ?_); · (first | decide | (show (0 : Int) < _; omega) | (refine cpow ?_ ?_ ?_ <;> first | decide | omega) | (refine cmulW ?_ ?_ <;> first | omega | decide) | (refine cdivW ?_ ?_ <;> first | omega | decide)))
  | ((with_reducible apply rv_ixL); (· first | exact .c (by assumption) | exact .c put_same | exact .v | exact .r); (· rfl))
  | ((with_reducible apply rc_strI64); (· omega))
  | ((with_reducible refine rs_str ?_ ?_); (· first | assumption | (have q := szl; omega)))
  | ((with_reducible refine rv_addS ?_ ?_); (· first | assumption | (have q := szl; omega)))
  | ((with_reducible apply rc_isi); (· first | assumption | constructor | exact .cl (by assumption)); (· first | assumption | rfl))
  | (with_reducible refine ve_f (XOk.none (E := noE)) ?_)
  | (with_reducible refine vg_tup rfl ?_) | (with_reducible refine vgw_tup rfl ?_))
local macro_rules | `(tactic| walk_at "go") => `(tactic| repeat (first | walk_at "g1" | walk_at "g2"))
local macro_rules | `(tactic| walk_at "g7") => `(tactic| first
  | ((with_reducible refine ve_lst ?_); refine va_cons ?_)
  | with_reducible refine ve_lst ?_)
local macro_rules | `(tactic| walk_at "g3") => `(tactic| first
  | with_reducible refine ve_disp ?_
  | with_reducible refine ve_dnew ?_
  | with_reducible refine vps_cons ?_
  | with_reducible refine vps_nil ?_
  | with_reducible refine ex_keyS ?_
  | with_reducible refine ex_keyI ?_
  | ((with_reducible refine rc_listS ?_ ?_); (· first | assumption | (have q := szl; omega)))
  | ((with_reducible refine ⟨?_, ?_, ?_⟩); (· (show _ ≤ 15; simp; done)); (· (show List.Nodup _; simp; done)))
  | ((with_reducible refine ⟨?_, ?_⟩); (· (show _ ≤ sizeLine; have q := szl; simp only [List.length_append, List.length_map, List.length_cons, List.length_nil]; omega))))
local macro_rules | `(tactic| walk_at "g5") => `(tactic| first
  | ((with_reducible apply rv_cat); (· first | exact .v | exact .c put_same | exact .c (by assumption)); (· first | exact .v | exact .c put_same | exact .c (by assumption)); (· (have q := szl; simp only [List.length_append, List.length_map, List.length_cons, List.length_nil]; omega))))
local macro_rules | `(tactic| walk_at "gv") => `(tactic| repeat (first | walk_at "g1" | walk_at "g2" | walk_at "g3" | walk_at "g7" | walk_at "g5"))
local macro_rules | `(tactic| walk_at "ii") => `(tactic| first | exact .v | exact .c put_same | exact .c (by assumption))
local macro_rules | `(tactic| walk_at "g4") => `(tactic| first
  | ((with_reducible apply ex_ins); (· walk_at "ii"); (· rfl))
  | ((with_reducible apply ex_fldI); (· walk_at "ii"); (· assumption); (· assumption); (· rfl))
  | ((with_reducible apply ex_cell); (· first | exact put_same | assumption))
  | ((with_reducible apply ex_self); (· first | exact put_same | assumption); (· assumption); (· assumption); (· decide))
  | with_reducible refine ve_cls ?_
  | with_reducible refine vx_par ?_
  | with_reducible refine ex_two ?_
  | with_reducible refine ve_mt0 (XOk.none (E := noE)) ?_
  | ((with_reducible apply rv_ixT); (· first | rfl | exact atI_zero))
  | with_reducible refine ve_mk0 (XOk.none (E := noE)) ?_
  | with_reducible refine ve_mk0 (XOk.same fun _ _ _ h => h) ?_
  | with_reducible refine ve_f (XOk.same fun _ _ _ h => h) ?_
  | with_reducible refine ve_mt0 (XOk.same fun _ _ _ h => h) ?_
  | with_reducible refine vx_raise ?_
  | with_reducible refine vx_raise2 ?_
  | with_reducible refine ve_xf ?_
  | ((with_reducible apply ex_xf); (· rfl))
  | with_reducible refine vx_tryD fun E' => ?_
  | with_reducible refine rv_eqET ?_
  | with_reducible refine rv_neET ?_
  | ((with_reducible apply rv_eqEL); (· first | exact .v | exact .r | exact .c put_same | exact .c (by assumption)))
  | ((with_reducible apply rv_neEL); (· first | exact .v | exact .r | exact .c put_same | exact .c (by assumption)))
  | with_reducible refine rs_tupG ?_
  | ((with_reducible refine rv_catA ?_ ?_); (· (have q := szl; simp only [List.length_append, List.length_map, List.length_cons, List.length_nil]; omega)))
  | ((with_reducible apply rc_tupleL); (· first | exact .v | exact .r | exact .c put_same | exact .c (by assumption)))
  | ((with_reducible apply rc_lenQ); (· first | exact .t | exact .l .v | exact .l .r | exact .l (.c put_same) | exact .l (.c (by assumption)))))
local macro_rules | `(tactic| walk_at "g8") => `(tactic| first
  | ((with_reducible apply rs_list); (· first | exact .v | exact .r | exact .c put_same | exact .c (by assumption)))
  | ((with_reducible apply rc_list); (· first | exact .t | exact .l .v | exact .l .r | exact .l (.c put_same) | exact .l (.c (by assumption)))))
local macro_rules | `(tactic| walk_at "gr") => `(tactic| repeat (first | walk_at "g1" | walk_at "gp" | walk_at "g2" | walk_at "g4" | walk_at "g3"))
local macro_rules | `(tactic| walk_at "ga") => `(tactic| repeat (first | walk_at "g1" | walk_at "gp" | walk_at "g2" | walk_at "g4" | walk_at "g8" | walk_at "g3" | walk_at "g7" | walk_at "g5"))
local macro_rules | `(tactic| walk_at "gn") => `(tactic| repeat (first | walk_at "g1" | walk_at "gp" | walk_at "g2" | walk_at "g4" | walk_at "g8" | walk_at "g3" | walk_at "g7"))
local macro_rules | `(tactic| walk_at "gl") => `(tactic| repeat (first | walk_at "g1" | walk_at "gp" | walk_at "g2" | walk_at "g4" | walk_at "g8" | walk_at "g3" | walk_at "g5"))
local macro_rules | `(tactic| walk_at "gp") => `(tactic| ((with_reducible apply ve_kd); · assumption))
namespace LW
open PySem L2 C8 PySem.Spec PyProof.Rows VS
def top (i : Nat) : Stmt := PySem.Challenge.pw_boxinbox_k40_stacks_refused_and_by_names.main.body.getD i (.Pass ⟨0, 0, 0, 0⟩)
def inClass (st : Stmt) (j : Nat) : Stmt := match st with
  | .ClassDef (body := b) .. => b.getD j (.Pass ⟨0, 0, 0, 0⟩)
  | _ => .Pass ⟨0, 0, 0, 0⟩
abbrev s_is_whole : Stmt := top 19
abbrev n_is_whole : List Str := ["thing", "low", "high"]
abbrev a_is_whole : List Str := ["thing", "low", "high"]
theorem sc_is_whole : FnScope n_is_whole a_is_whole (defScope s_is_whole) := ⟨rfl, rfl, rfl, by decide +kernel, rfl, by decide +kernel, by decide +kernel⟩
abbrev s_is_name : Stmt := top 20
abbrev n_is_name : List Str := ["thing", "sign"]
abbrev a_is_name : List Str := ["thing"]
theorem sc_is_name : FnScope n_is_name a_is_name (defScope s_is_name) := ⟨rfl, rfl, rfl, by decide +kernel, rfl, by decide +kernel, by decide +kernel⟩
abbrev s_Sides___init__ : Stmt := inClass (top 24) 0
abbrev n_Sides___init__ : List Str := ["self", "one", "other", "third", "side"]
abbrev a_Sides___init__ : List Str := ["self", "one", "other", "third"]
theorem sc_Sides___init__ : FnScope n_Sides___init__ a_Sides___init__ (defScope s_Sides___init__) := ⟨rfl, rfl, rfl, by decide +kernel, rfl, by decide +kernel, by decide +kernel⟩
abbrev s_Sides_told : Stmt := inClass (top 24) 1
abbrev n_Sides_told : List Str := ["self"]
abbrev a_Sides_told : List Str := ["self"]
theorem sc_Sides_told : FnScope n_Sides_told a_Sides_told (defScope s_Sides_told) := ⟨rfl, rfl, rfl, by decide +kernel, rfl, by decide +kernel, by decide +kernel⟩
abbrev s_Sides___repr__ : Stmt := inClass (top 24) 6
abbrev n_Sides___repr__ : List Str := ["self", "one", "other", "third"]
abbrev a_Sides___repr__ : List Str := ["self"]
theorem sc_Sides___repr__ : FnScope n_Sides___repr__ a_Sides___repr__ (defScope s_Sides___repr__) := ⟨rfl, rfl, rfl, by decide +kernel, rfl, by decide +kernel, by decide +kernel⟩
abbrev s_are_labels : Stmt := top 44
abbrev n_are_labels : List Str := ["thing", "word"]
abbrev a_are_labels : List Str := ["thing"]
theorem sc_are_labels : FnScope n_are_labels a_are_labels (defScope s_are_labels) := ⟨rfl, rfl, rfl, by decide +kernel, rfl, by decide +kernel, by decide +kernel⟩
abbrev s_Parcel___init__ : Stmt := inClass (top 45) 0
abbrev n_Parcel___init__ : List Str := ["self", "name", "sides", "wall", "weight", "bears", "labels", "number", "word"]
abbrev a_Parcel___init__ : List Str := ["self", "name", "sides", "wall", "weight", "bears", "labels"]
theorem sc_Parcel___init__ : FnScope n_Parcel___init__ a_Parcel___init__ (defScope s_Parcel___init__) := ⟨rfl, rfl, rfl, by decide +kernel, rfl, by decide +kernel, by decide +kernel⟩
abbrev s_Parcel_sides : Stmt := inClass (top 45) 2
abbrev n_Parcel_sides : List Str := ["self"]
abbrev a_Parcel_sides : List Str := ["self"]
theorem sc_Parcel_sides : FnScope n_Parcel_sides a_Parcel_sides (defScope s_Parcel_sides) := ⟨rfl, rfl, rfl, by decide +kernel, rfl, by decide +kernel, by decide +kernel⟩
abbrev s_Parcel_name : Stmt := inClass (top 45) 1
abbrev n_Parcel_name : List Str := ["self"]
abbrev a_Parcel_name : List Str := ["self"]
theorem sc_Parcel_name : FnScope n_Parcel_name a_Parcel_name (defScope s_Parcel_name) := ⟨rfl, rfl, rfl, by decide +kernel, rfl, by decide +kernel, by decide +kernel⟩
abbrev s_Parcel_weight : Stmt := inClass (top 45) 4
abbrev n_Parcel_weight : List Str := ["self"]
abbrev a_Parcel_weight : List Str := ["self"]
theorem sc_Parcel_weight : FnScope n_Parcel_weight a_Parcel_weight (defScope s_Parcel_weight) := ⟨rfl, rfl, rfl, by decide +kernel, rfl, by decide +kernel, by decide +kernel⟩
abbrev s_Parcel_bears : Stmt := inClass (top 45) 5
abbrev n_Parcel_bears : List Str := ["self"]
abbrev a_Parcel_bears : List Str := ["self"]
theorem sc_Parcel_bears : FnScope n_Parcel_bears a_Parcel_bears (defScope s_Parcel_bears) := ⟨rfl, rfl, rfl, by decide +kernel, rfl, by decide +kernel, by decide +kernel⟩
abbrev s_Parcel_labels : Stmt := inClass (top 45) 6
abbrev n_Parcel_labels : List Str := ["self"]
abbrev a_Parcel_labels : List Str := ["self"]
theorem sc_Parcel_labels : FnScope n_Parcel_labels a_Parcel_labels (defScope s_Parcel_labels) := ⟨rfl, rfl, rfl, by decide +kernel, rfl, by decide +kernel, by decide +kernel⟩
abbrev s_Heap___init__ : Stmt := inClass (top 48) 0
abbrev n_Heap___init__ : List Str := ["self"]
abbrev a_Heap___init__ : List Str := ["self"]
theorem sc_Heap___init__ : FnScope n_Heap___init__ a_Heap___init__ (defScope s_Heap___init__) := ⟨rfl, rfl, rfl, by decide +kernel, rfl, by decide +kernel, by decide +kernel⟩
abbrev s_Heap_names : Stmt := inClass (top 48) 5
abbrev n_Heap_names : List Str := ["self", "parcel"]
abbrev a_Heap_names : List Str := ["self"]
theorem sc_Heap_names : FnScope n_Heap_names a_Heap_names (defScope s_Heap_names) := ⟨rfl, rfl, rfl, by decide +kernel, rfl, by decide +kernel, by decide +kernel⟩
abbrev s_Heap_place_of : Stmt := inClass (top 48) 1
abbrev n_Heap_place_of : List Str := ["self", "name", "place", "parcel"]
abbrev a_Heap_place_of : List Str := ["self", "name"]
theorem sc_Heap_place_of : FnScope n_Heap_place_of a_Heap_place_of (defScope s_Heap_place_of) := ⟨rfl, rfl, rfl, by decide +kernel, rfl, by decide +kernel, by decide +kernel⟩
abbrev s_Heap_put : Stmt := inClass (top 48) 2
abbrev n_Heap_put : List Str := ["self", "parcel", "ahead", "place"]
abbrev a_Heap_put : List Str := ["self", "parcel", "ahead"]
theorem sc_Heap_put : FnScope n_Heap_put a_Heap_put (defScope s_Heap_put) := ⟨rfl, rfl, rfl, by decide +kernel, rfl, by decide +kernel, by decide +kernel⟩
abbrev s_Heap_out : Stmt := inClass (top 48) 3
abbrev n_Heap_out : List Str := ["self", "name"]
abbrev a_Heap_out : List Str := ["self", "name"]
theorem sc_Heap_out : FnScope n_Heap_out a_Heap_out (defScope s_Heap_out) := ⟨rfl, rfl, rfl, by decide +kernel, rfl, by decide +kernel, by decide +kernel⟩
abbrev s_Heap_parcel : Stmt := inClass (top 48) 4
abbrev n_Heap_parcel : List Str := ["self", "name"]
abbrev a_Heap_parcel : List Str := ["self", "name"]
theorem sc_Heap_parcel : FnScope n_Heap_parcel a_Heap_parcel (defScope s_Heap_parcel) := ⟨rfl, rfl, rfl, by decide +kernel, rfl, by decide +kernel, by decide +kernel⟩
abbrev s_are_names : Stmt := top 26
abbrev n_are_names : List Str := ["heap", "thing", "least", "held", "name"]
abbrev a_are_names : List Str := ["heap", "thing", "least"]
theorem sc_are_names : FnScope n_are_names a_are_names (defScope s_are_names) := ⟨rfl, rfl, rfl, by decide +kernel, rfl, by decide +kernel, by decide +kernel⟩
abbrev s_need_names : Stmt := top 28
abbrev n_need_names : List Str := ["heap", "names"]
abbrev a_need_names : List Str := ["heap", "names"]
theorem sc_need_names : FnScope n_need_names a_need_names (defScope s_need_names) := ⟨rfl, rfl, rfl, by decide +kernel, rfl, by decide +kernel, by decide +kernel⟩
abbrev s_is_top : Stmt := top 30
abbrev n_is_top : List Str := ["parcel"]
abbrev a_is_top : List Str := ["parcel"]
theorem sc_is_top : FnScope n_is_top a_is_top (defScope s_is_top) := ⟨rfl, rfl, rfl, by decide +kernel, rfl, by decide +kernel, by decide +kernel⟩
abbrev s_fault_of : Stmt := top 31
abbrev n_fault_of : List Str := ["parcels", "above", "place", "parcel"]
abbrev a_fault_of : List Str := ["parcels"]
theorem sc_fault_of : FnScope n_fault_of a_fault_of (defScope s_fault_of) := ⟨rfl, rfl, rfl, by decide +kernel, rfl, by decide +kernel, by decide +kernel⟩
abbrev s_might_of : Stmt := top 29
abbrev n_might_of : List Str := ["parcel"]
abbrev a_might_of : List Str := ["parcel"]
theorem sc_might_of : FnScope n_might_of a_might_of (defScope s_might_of) := ⟨rfl, rfl, rfl, by decide +kernel, rfl, by decide +kernel, by decide +kernel⟩
abbrev s_stack_fault : Stmt := top 32
abbrev n_stack_fault : List Str := ["heap", "names", "name"]
abbrev a_stack_fault : List Str := ["heap", "names"]
theorem sc_stack_fault : FnScope n_stack_fault a_stack_fault (defScope s_stack_fault) := ⟨rfl, rfl, rfl, by decide +kernel, rfl, by decide +kernel, by decide +kernel⟩
abbrev s_heights : Stmt := top 39
abbrev n_heights : List Str := ["heap", "names", "least", "most", "name", "parcel", "told", "ups"]
abbrev a_heights : List Str := ["heap", "names"]
theorem sc_heights : FnScope n_heights a_heights (defScope s_heights) := ⟨rfl, rfl, rfl, by decide +kernel, rfl, by decide +kernel, by decide +kernel⟩
abbrev s_stacked : Stmt := top 33
abbrev n_stacked : List Str := ["heap", "names", "parcels", "tops", "found", "fault", "parcel", "name"]
abbrev a_stacked : List Str := ["heap", "names"]
theorem sc_stacked : FnScope n_stacked a_stacked (defScope s_stacked) := ⟨rfl, rfl, rfl, by decide +kernel, rfl, by decide +kernel, by decide +kernel⟩
abbrev s_is_stack : Stmt := top 34
abbrev n_is_stack : List Str := ["parcels", "many"]
abbrev a_is_stack : List Str := ["parcels", "many"]
theorem sc_is_stack : FnScope n_is_stack a_is_stack (defScope s_is_stack) := ⟨rfl, rfl, rfl, by decide +kernel, rfl, by decide +kernel, by decide +kernel⟩
abbrev s_are_tops : Stmt := top 35
abbrev n_are_tops : List Str := ["parcels", "many", "parcel"]
abbrev a_are_tops : List Str := ["parcels", "many"]
theorem sc_are_tops : FnScope n_are_tops a_are_tops (defScope s_are_tops) := ⟨rfl, rfl, rfl, by decide +kernel, rfl, by decide +kernel, by decide +kernel⟩
abbrev s_are_heavy : Stmt := top 36
abbrev n_are_heavy : List Str := ["parcels", "many", "plain", "parcel"]
abbrev a_are_heavy : List Str := ["parcels", "many"]
theorem sc_are_heavy : FnScope n_are_heavy a_are_heavy (defScope s_are_heavy) := ⟨rfl, rfl, rfl, by decide +kernel, rfl, by decide +kernel, by decide +kernel⟩
abbrev s_shows_stacked : Stmt := top 38
abbrev n_shows_stacked : List Str := ["heap", "names", "thing", "word", "some", "shown", "name"]
abbrev a_shows_stacked : List Str := ["heap", "names", "thing"]
theorem sc_shows_stacked : FnScope n_shows_stacked a_shows_stacked (defScope s_shows_stacked) := ⟨rfl, rfl, rfl, by decide +kernel, rfl, by decide +kernel, by decide +kernel⟩
abbrev s__law_cell : Stmt := top 50
abbrev n__law_cell : List Str := ["_law_script", "_law_k"]
abbrev a__law_cell : List Str := ["_law_script", "_law_k"]
theorem sc__law_cell : FnScope n__law_cell a__law_cell (defScope s__law_cell) := ⟨rfl, rfl, rfl, by decide +kernel, rfl, by decide +kernel, by decide +kernel⟩
abbrev s__law_purse : Stmt := top 51
abbrev n__law_purse : List Str := ["_law_cell_here"]
abbrev a__law_purse : List Str := ["_law_cell_here"]
theorem sc__law_purse : FnScope n__law_purse a__law_purse (defScope s__law_purse) := ⟨rfl, rfl, rfl, by decide +kernel, rfl, by decide +kernel, by decide +kernel⟩
abbrev s__law_take : Stmt := top 52
abbrev n__law_take : List Str := ["_law_purse_here", "_law_below", "_law_digit", "_law_left", "_law_right_here"]
abbrev a__law_take : List Str := ["_law_purse_here", "_law_below"]
theorem sc__law_take : FnScope n__law_take a__law_take (defScope s__law_take) := ⟨rfl, rfl, rfl, by decide +kernel, rfl, by decide +kernel, by decide +kernel⟩
abbrev s__law_names : Stmt := top 53
abbrev n__law_names : List Str := ["_law_purse_here", "_law_size", "_law_letters", "_law_way", "_law_first", "_law_step", "_law_words", "_law_stem", "_law_at", "_law_head", "_law_tail", "_law_found", "_law_k", "_law_same", "_law_name"]
abbrev a__law_names : List Str := ["_law_purse_here", "_law_size"]
theorem sc__law_names : FnScope n__law_names a__law_names (defScope s__law_names) := ⟨rfl, rfl, rfl, by decide +kernel, rfl, by decide +kernel, by decide +kernel⟩
abbrev s__law_pile : Stmt := top 54
abbrev n__law_pile : List Str := ["_law_purse_here", "_law_size", "_law_way", "_law_great", "_law_tops", "_law_above", "_law_found", "_law_word_by", "_law_side", "_law_sides", "_law_weight", "_law_bears", "_law_labels", "_law_word"]
abbrev a__law_pile : List Str := ["_law_purse_here"]
theorem sc__law_pile : FnScope n__law_pile a__law_pile (defScope s__law_pile) := ⟨rfl, rfl, rfl, by decide +kernel, rfl, by decide +kernel, by decide +kernel⟩
abbrev s__law_shuffled : Stmt := top 55
abbrev n__law_shuffled : List Str := ["_law_purse_here", "_law_things", "_law_left", "_law_found"]
abbrev a__law_shuffled : List Str := ["_law_purse_here", "_law_things"]
theorem sc__law_shuffled : FnScope n__law_shuffled a__law_shuffled (defScope s__law_shuffled) := ⟨rfl, rfl, rfl, by decide +kernel, rfl, by decide +kernel, by decide +kernel⟩
abbrev s__law_some : Stmt := top 56
abbrev n__law_some : List Str := ["_law_purse_here", "_law_rows", "_law_found", "_law_way", "_law_at", "_law_less", "_law_row", "_law_word_by"]
abbrev a__law_some : List Str := ["_law_purse_here", "_law_rows"]
theorem sc__law_some : FnScope n__law_some a__law_some (defScope s__law_some) := ⟨rfl, rfl, rfl, by decide +kernel, rfl, by decide +kernel, by decide +kernel⟩
abbrev s__law_heap : Stmt := top 57
abbrev n__law_heap : List Str := ["_law_rows", "_law_pile_here", "_law_row", "_law_sides"]
abbrev a__law_heap : List Str := ["_law_rows"]
theorem sc__law_heap : FnScope n__law_heap a__law_heap (defScope s__law_heap) := ⟨rfl, rfl, rfl, by decide +kernel, rfl, by decide +kernel, by decide +kernel⟩
abbrev s__law_spoilt_names : Stmt := top 59
abbrev n__law_spoilt_names : List Str := ["_law_purse_here", "_law_known", "_law_some_here", "_law_way", "_law_at", "_law_to", "_law_odd"]
abbrev a__law_spoilt_names : List Str := ["_law_purse_here", "_law_known", "_law_some_here"]
theorem sc__law_spoilt_names : FnScope n__law_spoilt_names a__law_spoilt_names (defScope s__law_spoilt_names) := ⟨rfl, rfl, rfl, by decide +kernel, rfl, by decide +kernel, by decide +kernel⟩
abbrev s__law_good : Stmt := top 60
abbrev n__law_good : List Str := ["_law_known", "_law_some_here", "_law_one"]
abbrev a__law_good : List Str := ["_law_known", "_law_some_here"]
theorem sc__law_good : FnScope n__law_good a__law_good (defScope s__law_good) := ⟨rfl, rfl, rfl, by decide +kernel, rfl, by decide +kernel, by decide +kernel⟩
abbrev s__law_look : Stmt := top 61
abbrev n__law_look : List Str := ["_law_pile_here", "_law_way", "_law_some_here", "_law_odd"]
abbrev a__law_look : List Str := ["_law_pile_here", "_law_way", "_law_some_here", "_law_odd"]
theorem sc__law_look : FnScope n__law_look a__law_look (defScope s__law_look) := ⟨rfl, rfl, rfl, by decide +kernel, rfl, by decide +kernel, by decide +kernel⟩
abbrev s__law_asked : Stmt := top 62
abbrev n__law_asked : List Str := ["_law_pile_here", "_law_way", "_law_some_here", "_law_odd", "_law_found", "e"]
abbrev a__law_asked : List Str := ["_law_pile_here", "_law_way", "_law_some_here", "_law_odd"]
theorem sc__law_asked : FnScope n__law_asked a__law_asked (defScope s__law_asked) := ⟨rfl, rfl, rfl, by decide +kernel, rfl, by decide +kernel, by decide +kernel⟩
abbrev s__law_right : Stmt := top 63
abbrev n__law_right : List Str := ["_law_pile_here", "_law_some_here", "_law_odd", "_law_good_here", "_law_way", "_law_word", "_law_found"]
abbrev a__law_right : List Str := ["_law_pile_here", "_law_some_here", "_law_odd"]
theorem sc__law_right : FnScope n__law_right a__law_right (defScope s__law_right) := ⟨rfl, rfl, rfl, by decide +kernel, rfl, by decide +kernel, by decide +kernel⟩
abbrev s__law_told_right : Stmt := top 64
abbrev n__law_told_right : List Str := ["_law_pile_here", "_law_rows", "_law_some_here", "_law_sides", "_law_told", "_law_holds", "_law_row"]
abbrev a__law_told_right : List Str := ["_law_pile_here", "_law_rows", "_law_some_here"]
theorem sc__law_told_right : FnScope n__law_told_right a__law_told_right (defScope s__law_told_right) := ⟨rfl, rfl, rfl, by decide +kernel, rfl, by decide +kernel, by decide +kernel⟩
abbrev s_law : Stmt := top 65
abbrev n_law : List Str := ["_law_script", "_law_k", "_law_purse_here", "_law_rows", "_law_pile_here", "_law_known", "_law_some_here", "_law_odd", "_law_step", "_law_handed", "_law_gone", "_law_parcel"]
abbrev a_law : List Str := ["_law_script"]
theorem sc_law : FnScope n_law a_law (defScope s_law) := ⟨rfl, rfl, rfl, by decide +kernel, rfl, by decide +kernel, by decide +kernel⟩
abbrev s_NoSide___init__ : Stmt := inClass (top 7) 0
abbrev n_NoSide___init__ : List Str := ["self", "found"]
abbrev a_NoSide___init__ : List Str := ["self", "found"]
theorem sc_NoSide___init__ : FnScope n_NoSide___init__ a_NoSide___init__ (defScope s_NoSide___init__) := ⟨rfl, rfl, rfl, by decide +kernel, rfl, by decide +kernel, by decide +kernel⟩
abbrev s_NoNames___init__ : Stmt := inClass (top 14) 0
abbrev n_NoNames___init__ : List Str := ["self", "found"]
abbrev a_NoNames___init__ : List Str := ["self", "found"]
theorem sc_NoNames___init__ : FnScope n_NoNames___init__ a_NoNames___init__ (defScope s_NoNames___init__) := ⟨rfl, rfl, rfl, by decide +kernel, rfl, by decide +kernel, by decide +kernel⟩
def perms : List (List Int) := [[0, 1, 2], [0, 2, 1], [1, 0, 2], [1, 2, 0], [2, 0, 1], [2, 1, 0]]
structure Tx (K : PySem.W.Frag) (mg : Str → Option Value) : Prop where
  b_all : mg "all" = none
  b_bool : mg "bool" = none
  b_enumerate : mg "enumerate" = none
  b_int : mg "int" = none
  b_isinstance : mg "isinstance" = none
  b_len : mg "len" = none
  b_list : mg "list" = none
  b_max : mg "max" = none
  b_min : mg "min" = none
  b_range : mg "range" = none
  b_repr : mg "repr" = none
  b_set : mg "set" = none
  b_sorted : mg "sorted" = none
  b_str : mg "str" = none
  b_sum : mg "sum" = none
  b_tuple : mg "tuple" = none
  c_LETTERS : ∃ u, mg "LETTERS" = some u ∧ RelV (.str "abcdefghijklmnopqrstuvwxyz") u
  c_MOST_PARCELS : ∃ u, mg "MOST_PARCELS" = some u ∧ RelV (.int 12) u
  c_MOST_SIDE : ∃ u, mg "MOST_SIDE" = some u ∧ RelV (.int 100000) u
  c_MOST_WALL : ∃ u, mg "MOST_WALL" = some u ∧ RelV (.int 1000) u
  c_MOST_WEIGHT : ∃ u, mg "MOST_WEIGHT" = some u ∧ RelV (.int 100000) u
  c_ORDERS : ∃ a : Addr, (∃ u, mg "ORDERS" = some u ∧ RelV (.ref a) u) ∧ ∀ H S, Rep K H S (.ref a) (.tup (perms.map fun p => .tup (p.map .int)))
  c_LABELS : ∃ a : Addr, (∃ u, mg "LABELS" = some u ∧ RelV (.ref a) u) ∧ ∀ H S, Rep K H S (.ref a) (.tup [.str "alone", .str "top", .str "upright"])
  e_NoNames_NoNames : ∀ A B : Addr, mg "NoNames" = some (.ref A) → mg "NoNames" = some (.ref B) → PySem.W.exmOne K (.ref A) (.ref B) = some true
structure Kl_Sides (K : PySem.W.Frag) (mg : Str → Option Value) (C : Addr) : Prop where
  at_ : mg "Sides" = some (.ref C)
  ins : C8.InsC K C
  a_three : NoAttr K C "three"
  t_int : PySem.W.kitOne K (.type "int") (.ref C) = some false
  t_bool : PySem.W.kitOne K (.type "bool") (.ref C) = some false
  t_str : PySem.W.kitOne K (.type "str") (.ref C) = some false
  t_NoneType : PySem.W.kitOne K (.type "NoneType") (.ref C) = some false
  t_list : PySem.W.kitOne K (.type "list") (.ref C) = some false
  t_tuple : PySem.W.kitOne K (.type "tuple") (.ref C) = some false
  t_dict : PySem.W.kitOne K (.type "dict") (.ref C) = some false
  u_list : PySem.W.kitOne K (.ref C) (.type "list") = some false
  u_tuple : PySem.W.kitOne K (.ref C) (.type "tuple") = some false
theorem Kl_Sides.no {K : PySem.W.Frag} {mg : Str → Option Value} {C : Addr} (k : Kl_Sides K mg C) {d : D} (h : isP d = true) : PySem.W.kitOne K (.type (tyN d)) (.ref C) = some false :=
  tyN_all (P := fun n => PySem.W.kitOne K (.type n) (.ref C) = some false) k.t_NoneType k.t_bool k.t_int k.t_str k.t_list k.t_tuple k.t_dict h
structure Kl_Parcel (K : PySem.W.Frag) (mg : Str → Option Value) (C : Addr) : Prop where
  at_ : mg "Parcel" = some (.ref C)
  ins : C8.InsC K C
  a_called : NoAttr K C "called"
  a_outside : NoAttr K C "outside"
  a_thick : NoAttr K C "thick"
  a_heavy : NoAttr K C "heavy"
  a_strong : NoAttr K C "strong"
  a_marks : NoAttr K C "marks"
  a_told : NoAttr K C "told"
  a_names : NoAttr K C "names"
  t_int : PySem.W.kitOne K (.type "int") (.ref C) = some false
  t_bool : PySem.W.kitOne K (.type "bool") (.ref C) = some false
  t_str : PySem.W.kitOne K (.type "str") (.ref C) = some false
  t_NoneType : PySem.W.kitOne K (.type "NoneType") (.ref C) = some false
  t_list : PySem.W.kitOne K (.type "list") (.ref C) = some false
  t_tuple : PySem.W.kitOne K (.type "tuple") (.ref C) = some false
  t_dict : PySem.W.kitOne K (.type "dict") (.ref C) = some false
theorem Kl_Parcel.no {K : PySem.W.Frag} {mg : Str → Option Value} {C : Addr} (k : Kl_Parcel K mg C) {d : D} (h : isP d = true) : PySem.W.kitOne K (.type (tyN d)) (.ref C) = some false :=
  tyN_all (P := fun n => PySem.W.kitOne K (.type n) (.ref C) = some false) k.t_NoneType k.t_bool k.t_int k.t_str k.t_list k.t_tuple k.t_dict h
structure Kl_Heap (K : PySem.W.Frag) (mg : Str → Option Value) (C : Addr) : Prop where
  at_ : mg "Heap" = some (.ref C)
  ins : C8.InsC K C
  a_held : NoAttr K C "held"
  a_told : NoAttr K C "told"
  a_kind : NoAttr K C "kind"
end LW
namespace LW
open PySem L2 C8 PySem.Spec PyProof.Rows VS
/-- what a thing is, as far as whole numbers go -/
inductive Wh (K : PySem.W.Frag) (S : Sto) : D → Option Int → Prop
  | i (i : Int) : Wh K S (.int i) (some i)
  | b (b : Bool) : Wh K S (.bl b) none
  | o {d : D} {t : Value} (h : OfC K S d t) (k : PySem.W.kitOne K t (.type "int") = some false) (n : ∀ i, d ≠ .int i) : Wh K S d none
def whB (o : Option Int) (lo hi : Int) : Bool := match o with
  | some i => decide (lo ≤ i) && decide (i ≤ hi)
  | none => false
theorem whB_of {i lo hi : Int} (h : lo ≤ i ∧ i ≤ hi) : whB (some i) lo hi = true := by
  show (decide (lo ≤ i) && decide (i ≤ hi)) = true
  rw [decide_eq_true h.1, decide_eq_true h.2]; rfl
theorem Wh.some {K : PySem.W.Frag} {S : Sto} {d : D} {i : Int} (h : Wh K S d (some i)) : d = .int i := by cases h; rfl
def p_is_whole (K : PySem.W.Frag) : Pt := fun ds S G _ => ∃ d o lo hi, ds = [d, .int lo, .int hi] ∧ Wh K S d o ∧ G (.bl (whB o lo hi)) S
section
variable {P : Program} {w : World} {K : PySem.W.Frag} {mg : Str → Option Value} {base : Heap}
theorem ok_is_whole {f : Addr} {fd : FuncData} {C_Sides C_Parcel C_Heap C_NoSide C_NoNames : Addr}
    (F : Fd K "is_whole" "is_whole" s_is_whole [] f fd) (T : Tx K mg) (hsys : SysOk base) :
    FnG P w K mg base (L2.CX P w) 1 f fd a_is_whole (spOf K (p_is_whole K)) := by
  refine VS.unbox ?_
  simp (disch := with_unfolding_all
    refine fn_val F sc_is_whole (fun ds S G Y h => ?_) (fun cdv A hgd outer s H E hr px tk po ds S G Y h => ?_)
    · obtain ⟨d, o, lo, hi, rfl, _⟩ := h
      rfl
    · obtain ⟨d, o, lo, hi, rfl, h, q⟩ := h
      refine ⟨_, (pss_one (ps_ret (pe_and (pe_callB c_isiZ (by rfl) T.b_isinstance (by decide +kernel) (pa_cons (pv 0) (pa_cons (pe_bltn (v := .ty "int") (by rfl) T.b_int (by decide +kernel) rfl) pa_nil))) (pe_and (pe_not (pe_callB c_isiZ (by rfl) T.b_isinstance (by decide +kernel) (pa_cons (pv 0) (pa_cons (pe_bltn (v := .ty "bool") (by rfl) T.b_bool (by decide +kernel) rfl) pa_nil)))) (pe_one (pe_chain op_le op_le (pv 1) (pv 0) (pv 2))))))), ?_⟩
      dsimp only [cxOf, List.map]
      show VX _ _ [_, _, _] _ _
      cases h with
      | i i =>
        walk_at "go"
        refine br (fun h1 => ?_) (fun h1 => ?_)
        · walk_at "go"
          have e : whB (some i) lo hi = decide (i ≤ hi) := by show (decide (lo ≤ i) && decide (i ≤ hi)) = _; rw [decide_eq_true h1]; rfl
          rw [← e]
          exact q
        · have e : whB (some i) lo hi = false := by show (decide (lo ≤ i) && decide (i ≤ hi)) = _; rw [decide_eq_false h1]; rfl
          rw [← e]
          exact q
      | b b =>
        walk_at "go"
        exact q
      | o ht hk hn =>
        walk_at "go"
        refine rc_isiP ht hk ?_
        walk_at "go"
        exact q) only [↓VS.box]
end
/-! ### orders -/
def ordB : List D → Bool
  | [.int a, .int b, .int c] => perms.contains [a, b, c]
  | _ => false
theorem ordB_of {p : List Int} (h : p ∈ perms) : ordB (p.map D.int) = true := by
  simp only [perms, List.mem_cons, List.not_mem_nil, or_false] at h
  rcases h with rfl | rfl | rfl | rfl | rfl | rfl <;> rfl
/-- what a thing is, as far as orders go -/
inductive Od (K : PySem.W.Frag) (S : Sto) : D → Bool → Prop
  | t {xs : List D} (hl : xs.length ≤ 1000) (h : ∀ x ∈ xs, ∃ o, Wh K S x o) : Od K S (.tup xs) (ordB xs)
  | o {d : D} {t : Value} (h : OfC K S d t) (k : PySem.W.kitOne K t (.type "tuple") = some false) : Od K S d false
theorem Od.perm {K : PySem.W.Frag} {S : Sto} {p : List Int} (h : p ∈ perms) : Od K S (.tup (p.map D.int)) true := by
  rw [← ordB_of h]
  refine .t ?_ fun x hx => ?_
  · simp only [perms, List.mem_cons, List.not_mem_nil, or_false] at h
    rcases h with rfl | rfl | rfl | rfl | rfl | rfl <;> decide
  · obtain ⟨i, _, rfl⟩ := List.mem_map.mp hx
    exact ⟨_, .i i⟩
end LW
namespace LW
open PySem L2 C8 PySem.Spec PyProof.Rows VS
/-! ### Sides by value -/
def fD (t : D) : List (Str × D) := [("three", t)]
def sd (C : Addr) (a b c : Int) : D := .ins C (fD (.tup [.int a, .int b, .int c]))
def In1 (a : Int) : Prop := 1 ≤ a ∧ a ≤ 100000
/-- the first thing that is no side -/
def bad : List (D × Option Int) → Option D
  | [] => none
  | (d, o) :: r => if whB o 1 100000 = true then bad r else some d
def p_Sides_init (K : PySem.W.Frag) (CS CX : Addr) : Pt := fun ds S G Y => ∃ y d1 d2 d3 o1 o2 o3, ds = [.ref y, d1, d2, d3] ∧ S y = some (.ins CS []) ∧ Wh K S d1 o1 ∧ Wh K S d2 o2 ∧ Wh K S d3 o3 ∧
  (bad [(d1, o1), (d2, o2), (d3, o3)] = none → G .non (put S y (.ins CS (fD (.tup [d1, d2, d3]))))) ∧ ∀ d, bad [(d1, o1), (d2, o2), (d3, o3)] = some d → Y CX [("found", d)] S
theorem bad_of {a b c : Int} {d1 d2 d3 : D} (ha : In1 a) (hb : In1 b) (hc : In1 c) : bad [(d1, some a), (d2, some b), (d3, some c)] = none := by
  unfold bad
  rw [if_pos (whB_of ha)]
  unfold bad
  rw [if_pos (whB_of hb)]
  unfold bad
  rw [if_pos (whB_of hc)]
  rfl
/-- the call of the maker where all is good -/
theorem init_ok {K : PySem.W.Frag} {CS CX : Addr} {a b c : Int} (ha : In1 a) (hb : In1 b) (hc : In1 c) {y : Addr} {S : Sto} (hy : S y = none) {G : D → Sto → Prop} {Y : Addr → List (Str × D) → Sto → Prop} (q : G .non (put (put S y (.ins CS [])) y (sd CS a b c))) :
    p_Sides_init K CS CX [.ref y, .int a, .int b, .int c] (put S y (.ins CS [])) G Y :=
  ⟨y, _, _, _, _, _, _, rfl, put_same, .i a, .i b, .i c, fun _ => q, fun d h => by rw [bad_of ha hb hc] at h; cases h⟩
def p_told (CS : Addr) : Pt := fun ds S G _ => ∃ a b c, ds = [sd CS a b c] ∧ G (.tup [.int a, .int b, .int c]) S
def p_ranked (CS : Addr) : Pt := fun ds S G _ => ∃ a b c, ds = [sd CS a b c] ∧ G (.tup ((dn [a, b, c]).map D.int)) S
/-- the side of a number -/
def tn (a b c i : Int) : Int := if i = 0 then a else if i = 1 then b else c
def tnl (a b c : Int) (p : List Int) : List Int := p.map (tn a b c)
section
variable {P : Program} {w : World} {K : PySem.W.Frag} {mg : Str → Option Value} {base : Heap}
theorem ok_Sides___init__ {f : Addr} {fd : FuncData} {C_Sides C_Parcel C_Heap C_NoSide C_NoNames : Addr} {f_is_whole : Addr} {g_is_whole : FuncData}
    (F : Fd K "__init__" "Sides.__init__" s_Sides___init__ [] f fd) (T : Tx K mg) (hsys : SysOk base)
    (c_is_whole : Cf P w K mg base (L2.CX P w) 1 "is_whole" s_is_whole [] a_is_whole (p_is_whole K) f_is_whole g_is_whole)
    (x_NoSide : Xc P w K mg base "NoSide" C_NoSide "found")
    (k_Sides : Kl_Sides K mg C_Sides) :
    FnG P w K mg base (L2.CX P w) 3 f fd a_Sides___init__ (spOf K (p_Sides_init K C_Sides C_NoSide)) := by
  refine VS.unbox ?_
  simp (disch := with_unfolding_all
    have kc_Sides := k_Sides.ins.cl
    have ka_Sides_three := k_Sides.a_three
    refine fn_val F sc_Sides___init__ (fun ds S G Y h => ?_) (fun cdv A hgd outer s H E hr px tk po ds S G Y h => ?_)
    · obtain ⟨y, d1, d2, d3, o1, o2, o3, rfl, _⟩ := h
      rfl
    · obtain ⟨y, d1, d2, d3, o1, o2, o3, rfl, hy, w1, w2, w3, q, qx⟩ := h
      refine ⟨_, (pss_cons (ps_for po rfl (pi_tup (pe_tup (pa_cons (pv 1) (pa_cons (pv 2) (pa_cons (pv 3) pa_nil))))) (pg_name (i := 4) sc_Sides___init__.nd rfl (Or.inl rfl))
        (pss_one (ps_if (pt_not (pt_val (pe_cG c_is_whole.fn hgd (hr.mono (by decide)) (by rfl) c_is_whole.mg c_is_whole.kp c_is_whole.b .nil VS.pass0 (pa_cons (pv 4) (pa_cons pe_int (pa_cons (pe_gc (by rfl) T.c_MOST_SIDE) pa_nil)))))) (pss_one (ps_rz tk x_NoSide (hr.mono (by decide)) (by rfl) (pv 4)))
        pss_nil)))
        (pss_one (ps_fld (pv 0) (pe_tup (pa_cons (pv 1) (pa_cons (pv 2) (pa_cons (pv 3) pa_nil)))) rfl))), ?_⟩
      dsimp only [cxOf, List.map]
      show VX _ _ [_, _, _, _, _] _ _
      walk_at "go"
      refine vx_for (vi_tup ?_)
      walk_at "go"
      refine ⟨by show 3 ≤ sizeLine; decide, ?_⟩
      have step : ∀ (d : D) (o : Option Int) (ρ4 : Option D) (W : Nat → Rho → Sto → Prop) (i : Nat), Wh K S d o → (whB o 1 100000 = true → ∀ x, W (i + 1) [some (.ref y), some d1, some d2, some d3, x] S) → (whB o 1 100000 = false → Y C_NoSide [("found", d)] S) → True := fun _ _ _ _ _ _ _ _ => trivial
      refine ⟨_, rfl, fun i ρ2 S2 => S2 = S ∧ ∃ x, ρ2 = [some (.ref y), some d1, some d2, some d3, x] ∧ bad (([(d1, o1), (d2, o2), (d3, o3)]).drop i) = bad [(d1, o1), (d2, o2), (d3, o3)], ⟨rfl, _, rfl, rfl⟩, ?_, ?_⟩
      · rintro i d ρ2 S2 hd ⟨rfl, x, rfl, hb⟩
        walk_at "go"
        have hk : ∃ o, Wh K S2 d o ∧ ([(d1, o1), (d2, o2), (d3, o3)] : List (D × Option Int)).drop i = (d, o) :: ([(d1, o1), (d2, o2), (d3, o3)]).drop (i + 1) := by
          have hi := (List.getElem?_eq_some_iff.mp hd).1
          match i, hi, hd with
          | 0, _, hd => cases hd; exact ⟨o1, w1, rfl⟩
          | 1, _, hd => cases hd; exact ⟨o2, w2, rfl⟩
          | 2, _, hd => cases hd; exact ⟨o3, w3, rfl⟩
        obtain ⟨o, wo, ed⟩ := hk
        rw [ed] at hb
        refine ⟨d, o, 1, 100000, rfl, wo, ?_⟩
        walk_at "go"
        refine brB (fun h1 => ?_) (fun h1 => ?_)
        · walk_at "go"
          refine vx_raise ?_
          walk_at "go"
          refine qx d ?_
          rw [← hb]
          unfold bad
          rw [if_neg (by rw [h1]; decide)]
        · walk_at "go"
          refine ⟨rfl, _, rfl, ?_⟩
          rw [← hb]
          conv => rhs; unfold bad
          rw [if_pos h1]
      · rintro ρ2 S2 ⟨rfl, x, rfl, hb⟩
        walk_at "go"
        refine ⟨by show 3 ≤ sizeLine; decide, ?_⟩
        walk_at "go"
        refine ⟨_, _, _, rfl, hy, k_Sides.ins.cl, k_Sides.a_three, by decide, ?_⟩
        walk_at "go"
        exact q hb.symm) only [↓VS.box]
theorem ok_Sides_told {f : Addr} {fd : FuncData} {C_Sides C_Parcel C_Heap C_NoSide C_NoNames : Addr}
    (F : Fd K "told" "Sides.told" s_Sides_told [] f fd) (T : Tx K mg) (hsys : SysOk base)
    (k_Sides : Kl_Sides K mg C_Sides) :
    FnG P w K mg base (L2.CX P w) 1 f fd a_Sides_told (spOf K (p_told C_Sides)) := by
  refine VS.unbox ?_
  simp (disch := with_unfolding_all
    have kc_Sides := k_Sides.ins.cl
    have ka_Sides_three := k_Sides.a_three
    refine fn_val F sc_Sides_told (fun ds S G Y h => ?_) (fun cdv A hgd outer s H E hr px tk po ds S G Y h => ?_)
    · obtain ⟨a, b, c, rfl, _⟩ := h
      rfl
    · obtain ⟨a, b, c, rfl, q⟩ := h
      refine ⟨_, (pss_one (ps_ret (pe_fld (pv 0) rfl))), ?_⟩
      dsimp only [cxOf, List.map]
      show VX _ _ [_] _ _
      walk_at "go"
      exact ⟨_, _, _, .v, k_Sides.ins.cl, k_Sides.a_three, rfl, q⟩) only [↓VS.box]
end
end LW
namespace LW
open PySem L2 C8 PySem.Spec PyProof.Rows VS
end LW
namespace LW
open PySem L2 C8 PySem.Spec PyProof.Rows VS
/-- a purse: after n draws at most -/
def Pu (S : Sto) (p : Addr) (n : Int) : Prop := ∃ a b c : Int, S p = some (.lst [.int a, .int b, .int c]) ∧ 0 ≤ b ∧ b < 2147483648 ∧ 0 ≤ c ∧ c ≤ n
def Off (p : Addr) (S S' : Sto) : Prop := ∀ q, q ≠ p → S' q = S q
theorem Off.refl {p : Addr} {S : Sto} : Off p S S := fun _ _ => rfl
theorem Off.trans {p : Addr} {S S' S'' : Sto} (a : Off p S S') (b : Off p S' S'') : Off p S S'' := fun q h => (b q h).trans (a q h)
theorem Off.put {p : Addr} {S : Sto} {d : D} : Off p S (put S p d) := fun _ h => put_ne h
theorem Off.ex1 {p : Addr} {S S' : Sto} (o : Off p S S') : Ex1 p S S' := fun q d n h => (o q n).trans h
theorem Pu.mono {S : Sto} {p : Addr} {n m : Int} (h : Pu S p n) (l : n ≤ m) : Pu S p m := by
  obtain ⟨a, b, c, h1, h2, h3, h4, h5⟩ := h
  exact ⟨a, b, c, h1, h2, h3, h4, by omega⟩
theorem Pu.off {S S' : Sto} {p q : Addr} {n : Int} (h : Pu S p n) (o : Off q S S') (ne : p ≠ q) : Pu S' p n := by
  obtain ⟨a, b, c, h1, h2⟩ := h
  exact ⟨a, b, c, (o p ne).trans h1, h2⟩
def p__law_take : Pt := fun ds S G _ => ∃ (p : Addr) (n m : Int), ds = [.ref p, .int m] ∧ Pu S p n ∧ n < 1000000 ∧ 0 < m ∧ m < 2 ^ 64 ∧ ∀ (d : Int) (S' : Sto), 0 ≤ d → d < m → Pu S' p (n + 1) → Off p S S' → G (.int d) S'
def p__law_cell : Pt := fun ds S G _ => ∃ (ns : List Int) (k : Nat), ds = [.rol (ns.map .int), .int k] ∧ k < 1000 ∧ ∀ z : Int, G (.int z) S
def p__law_purse : Pt := fun ds S G _ => ∃ z : Int, ds = [.int z] ∧ ∀ (p : Addr) (S' : Sto), S p = none → Pu S' p 0 → Off p S S' → G (.ref p) S'
section
variable {P : Program} {w : World} {K : PySem.W.Frag} {mg : Str → Option Value} {base : Heap}
theorem ok__law_cell {f : Addr} {fd : FuncData} {C_Sides C_Parcel C_Heap C_NoSide C_NoNames : Addr}
    (F : Fd K "_law_cell" "_law_cell" s__law_cell [] f fd) (T : Tx K mg) (hsys : SysOk base) :
    FnG P w K mg base (L2.CX P w) 1 f fd a__law_cell (spOf K p__law_cell) := by
  refine VS.unbox ?_
  simp (disch := with_unfolding_all
    refine fn_val F sc__law_cell (fun ds S G Y h => ?_) (fun cdv A hgd outer s H E hr px tk po ds S G Y h => ?_)
    · obtain ⟨ns, k, rfl, _⟩ := h
      rfl
    · obtain ⟨ns, k, rfl, hk, q⟩ := h
      refine ⟨_, (pss_cons (ps_if (pt_cmpR op_lt (pv 1) (pe_callB c_len (by rfl) T.b_len (by decide +kernel) (pa_cons (pv 0) pa_nil)) (nomark _)) (pss_one (ps_ret (pe_ix ix_list (pv 0) (pv 1) (fun _ _ => rfl))))
        pss_nil)
        (pss_one (ps_ret (pe_op op_add (pe_op op_mulW pe_int (pv 1)) pe_int)))), ?_⟩
      (try dsimp only [cxOf, List.map])
      show VX _ _ [_, _] _ _
      walk_at "go"
      refine rc_lenQ (.l .r) ?_
      walk_at "go"
      refine br (fun h1 => ?_) (fun h1 => ?_)
      · walk_at "go"
        have hl : k < ns.length := by
          rw [List.length_map] at h1
          omega
        refine rv_ixL .r (atI_nat (j := k) (by rw [List.getElem?_map, List.getElem?_eq_getElem hl]; rfl)) ?_
        exact q _
      · walk_at "go"
        exact q _) only [↓VS.box]
theorem ok__law_purse {f : Addr} {fd : FuncData} {C_Sides C_Parcel C_Heap C_NoSide C_NoNames : Addr}
    (F : Fd K "_law_purse" "_law_purse" s__law_purse [] f fd) (T : Tx K mg) (hsys : SysOk base) :
    FnG P w K mg base (L2.CX P w) 1 f fd a__law_purse (spOf K p__law_purse) := by
  refine VS.unbox ?_
  simp (disch := with_unfolding_all
    refine fn_val F sc__law_purse (fun ds S G Y h => ?_) (fun cdv A hgd outer s H E hr px tk po ds S G Y h => ?_)
    · obtain ⟨z, rfl, _⟩ := h
      rfl
    · obtain ⟨z, rfl, q⟩ := h
      refine ⟨_, (pss_one (ps_ret (pe_lst (pa_cons (pe_callB (c_max2 rfl) (by rfl) T.b_max (by decide +kernel) (pa_cons pe_int (pa_cons (pe_op op_sub (pv 0) (pe_op op_pow pe_int pe_int)) pa_nil))) (pa_cons (pe_op op_mod (pv 0) pe_int) (pa_cons pe_int pa_nil)))))), ?_⟩
      show VX _ _ [_] _ _
      walk_at "go"
      refine ve_lstc ?_
      walk_at "go"
      refine ⟨(by show 3 ≤ sizeLine; decide), fun p hp => q p _ hp ⟨_, _, _, put_same, Int.emod_nonneg _ (by decide), ?_, Int.le_refl _, Int.le_refl _⟩ .put⟩
      exact Int.lt_trans (Int.emod_lt_of_pos _ (by decide)) (by decide)) only [↓VS.box]
theorem ok__law_take {f : Addr} {fd : FuncData} {C_Sides C_Parcel C_Heap C_NoSide C_NoNames : Addr}
    (F : Fd K "_law_take" "_law_take" s__law_take [] f fd) (T : Tx K mg) (hsys : SysOk base) :
    FnG P w K mg base (L2.CX P w) 1 f fd a__law_take (spOf K p__law_take) := by
  refine VS.unbox ?_
  simp (disch := with_unfolding_all
    refine fn_val F sc__law_take (fun ds S G Y h => ?_) (fun cdv A hgd outer s H E hr px tk po ds S G Y h => ?_)
    · obtain ⟨p, n, m, rfl, _⟩ := h
      rfl
    · obtain ⟨p, n, m, rfl, ⟨a, b, c, hp, b0, b1, c0, c1⟩, hn, m0, m1, q⟩ := h
      refine ⟨_, (pss_cons (ps_if (pt_cmpR op_gt (pe_ix ix_list (pv 0) pe_int (fun _ _ => rfl)) pe_int (nomark _)) (pss_cons (ps_set (i := 2) sc__law_take.nd rfl (Or.inl rfl) (pe_op op_mod (pe_ix ix_list (pv 0) pe_int (fun _ _ => rfl)) (pv 1)))
        (pss_cons (ps_asg (pe_op op_fdivW (pe_ix ix_list (pv 0) pe_int (fun _ _ => rfl)) (pv 1)) (pg_sub (pv 0) pe_int set_list))
        (pss_one (ps_ret (pv 2)))))
        pss_nil)
        (pss_cons (ps_asg (pe_op op_add (pe_ix ix_list (pv 0) pe_int (fun _ _ => rfl)) pe_int) (pg_sub (pv 0) pe_int set_list))
        (pss_cons (ps_set (i := 3) sc__law_take.nd rfl (Or.inl rfl) (pe_op op_mod (pe_op op_pow (pe_op op_add (pe_op op_add (pe_ix ix_list (pv 0) pe_int (fun _ _ => rfl)) (pe_op op_mulW pe_int (pe_ix ix_list (pv 0) pe_int (fun _ _ => rfl)))) pe_int) pe_int) pe_int))
        (pss_cons (ps_set (i := 4) sc__law_take.nd rfl (Or.inl rfl) (pe_op op_mod (pe_op op_pow (pe_op op_add (pe_op op_mulW (pe_ix ix_list (pv 0) pe_int (fun _ _ => rfl)) (pe_ix ix_list (pv 0) pe_int (fun _ _ => rfl))) pe_int) pe_int) pe_int))
        (pss_one (ps_ret (pe_op op_mod (pe_op op_fdivW (pe_op op_add (pv 3) (pe_op op_mulW pe_int (pv 4))) pe_int) (pv 1)))))))), ?_⟩
      (try dsimp only [cxOf, List.map])
      show VX _ _ [_, _, _, _, _] _ _
      walk_at "go"
      refine br (fun h1 => ?_) (fun h1 => ?_)
      · walk_at "go"
        refine ⟨_, 0, _, rfl, hp, rfl, ?_⟩
        walk_at "go"
        exact q _ _ (Int.emod_nonneg _ (by omega)) (Int.emod_lt_of_pos _ m0) ⟨_, _, _, put_same, b0, b1, c0, by omega⟩ .put
      · walk_at "go"
        refine ⟨_, 2, _, rfl, hp, rfl, ?_⟩
        have g1 : 0 ≤ b * (c + 1) := Int.mul_nonneg b0 (by omega)
        have g2 : b * (c + 1) ≤ 2147483648 * 1000001 := Int.mul_le_mul (by omega) (by omega) (by omega) (by decide)
        walk_at "go"
        exact q _ _ (Int.emod_nonneg _ (by omega)) (Int.emod_lt_of_pos _ m0) ⟨_, _, _, put_same, b0, b1, by omega, by omega⟩ .put) only [↓VS.box]
end
end LW
namespace LW
open PySem L2 C8 PySem.Spec PyProof.Rows VS
/-! ### the purse, further -/
theorem Pu.ne {S : Sto} {p l : Addr} {n : Int} (h : Pu S p n) (hl : S l = none) : p ≠ l := by
  obtain ⟨a, b, c, e, _⟩ := h
  exact ne_at e hl
theorem Pu.put {S : Sto} {p l : Addr} {n : Int} {d : D} (h : Pu S p n) (hl : S l = none) : Pu (put S l d) p n := by
  have ne := h.ne hl
  obtain ⟨a, b, c, e, r⟩ := h
  exact ⟨a, b, c, by rw [put_ne ne]; exact e, r⟩
theorem Pu.wr {S : Sto} {p l : Addr} {n : Int} {d : D} (h : Pu S p n) (ne : p ≠ l) : Pu (VS.put S l d) p n := by
  obtain ⟨a, b, c, e, r⟩ := h
  exact ⟨a, b, c, by rw [put_ne ne]; exact e, r⟩
theorem _root_.VS.Ex1.new {p l : Addr} {S S' : Sto} {d : D} (x : Ex1 p S S') (hl : S' l = none) : Ex1 p S (put S' l d) := fun q e n h => by
  have h' := x q e n h
  rw [put_ne]
  · exact h'
  · intro z; subst z; rw [hl] at h'; cases h'
theorem _root_.VS.Ex1.wr2 {p l : Addr} {S S' : Sto} {d : D} (x : Ex1 p S S') (hl : S l = none) : Ex1 p S (VS.put S' l d) := fun q e n h => by
  rw [put_ne]
  · exact x q e n h
  · intro z; subst z; rw [hl] at h; cases h
theorem _root_.VS.Ex1.dl {p l : Addr} {S S' : Sto} (x : Ex1 p S S') (hl : S l = none) : Ex1 p S (VS.del S' l) := fun q e n h => by
  rw [VS.del_ne]
  · exact x q e n h
  · intro z; subst z; rw [hl] at h; cases h
theorem take_ok {S : Sto} {p : Addr} {n m : Int} {G : D → Sto → Prop} {Y : Addr → List (Str × D) → Sto → Prop} (h : Pu S p n) (hn : n < 1000000) (h0 : 0 < m) (h1 : m < 2 ^ 64)
    (q : ∀ (d : Int) (S' : Sto), 0 ≤ d → d < m → Pu S' p (n + 1) → Off p S S' → G (.int d) S') : p__law_take [.ref p, .int m] S G Y := ⟨p, n, m, rfl, h, hn, h0, h1, q⟩
theorem cell_ok {ns : List Int} {k : Nat} {S : Sto} {G : D → Sto → Prop} {Y : Addr → List (Str × D) → Sto → Prop} (hk : k < 1000) (q : ∀ z : Int, G (.int z) S) : p__law_cell [.rol (ns.map .int), .int k] S G Y := ⟨ns, k, rfl, hk, q⟩
theorem purse_ok {z : Int} {S : Sto} {G : D → Sto → Prop} {Y : Addr → List (Str × D) → Sto → Prop} (q : ∀ (p : Addr) (S' : Sto), S p = none → Pu S' p 0 → Off p S S' → G (.ref p) S') : p__law_purse [.int z] S G Y := ⟨z, rfl, q⟩
end LW
open LW
local macro_rules | `(tactic| walk_at "gp") => `(tactic| ((with_reducible apply take_ok); (· assumption); (· first | decide | omega); (· first | decide | omega); (· first | decide | omega)))
local macro_rules | `(tactic| walk_at "gp") => `(tactic| ((with_reducible apply cell_ok); (· omega); intro cell))
local macro_rules | `(tactic| walk_at "gp") => `(tactic| with_reducible refine purse_ok ?_)
namespace LW
open PySem L2 C8 PySem.Spec PyProof.Rows VS
/-- three sides as a list -/
def li (a b c : Int) : D := .lst [.int a, .int b, .int c]
def p__law_three : Pt := fun ds S G _ => ∃ (p : Addr) (n : Int), ds = [.ref p] ∧ Pu S p n ∧ n < 900000 ∧ ∀ a b c S', In1 a → In1 b → In1 c → Pu S' p (n + 20) → Ex1 p S S' → G (li a b c) S'
def p__law_turned : Pt := fun ds S G _ => ∃ a b c p, ds = [li a b c, .tup (p.map D.int)] ∧ p ∈ perms ∧ G (.lst ((tnl a b c p).map D.int)) S
def ordsD : List D := perms.map fun p => .tup (p.map D.int)
def p__law_orders : Pt := fun ds S G _ => ds = [] ∧ G (.lst ordsD) S
end LW
namespace LW
open PySem L2 C8 PySem.Spec PyProof.Rows VS
/-! ### data as whole numbers, orders, Sides -/
end LW
namespace LW
open PySem L2 C8 PySem.Spec PyProof.Rows VS
/-! ### promises met at once -/
theorem told_ok {CS : Addr} {a b c : Int} {S : Sto} {G : D → Sto → Prop} {Y : Addr → List (Str × D) → Sto → Prop} (q : G (.tup [.int a, .int b, .int c]) S) : p_told CS [sd CS a b c] S G Y := ⟨a, b, c, rfl, q⟩
theorem ranked_ok {CS : Addr} {a b c : Int} {S : Sto} {G : D → Sto → Prop} {Y : Addr → List (Str × D) → Sto → Prop} (q : G (.tup ((dn [a, b, c]).map D.int)) S) : p_ranked CS [sd CS a b c] S G Y := ⟨a, b, c, rfl, q⟩
/-- Sides made of good numbers, by value -/
theorem ve_mkSd {c : VS.Ctx} {ρ : Rho} {S : Sto} {F : D → Sto → Prop} {t : TA} {E : L2.St → XK} {CS CX : Addr}
    (h : VA c t ρ S fun ds S1 => ∃ a b d, ds = [.int a, .int b, .int d] ∧ In1 a ∧ In1 b ∧ In1 d ∧ F (sd CS a b d) S1) : VE c (tMakeE CS (spOf c.K (p_Sides_init c.K CS CX)) [] E t) ρ S F :=
  ve_mk0 XOk.none (h.imp fun ds S1 ⟨a, b, d, e, ha, hb, hd, q⟩ y hy => by
    subst e
    exact init_ok ha hb hd hy ⟨rfl, y, _, rfl, put_same, nofun, by rw [del_put2 hy]; exact q⟩)
theorem ex_sd {a b d : Int} {G : Int → Int → Int → Prop} (ha : In1 a) (hb : In1 b) (hd : In1 d) (q : G a b d) : ∃ a' b' d', ([.int a, .int b, .int d] : List D) = [.int a', .int b', .int d'] ∧ In1 a' ∧ In1 b' ∧ In1 d' ∧ G a' b' d' := ⟨a, b, d, rfl, ha, hb, hd, q⟩
theorem lturn_ok {a b c : Int} {o : List Int} {S : Sto} {G : D → Sto → Prop} {Y : Addr → List (Str × D) → Sto → Prop} (ho : o ∈ perms) (q : G (.lst ((tnl a b c o).map D.int)) S) : p__law_turned [li a b c, .tup (o.map D.int)] S G Y := ⟨a, b, c, o, rfl, ho, q⟩
theorem lords_ok {S : Sto} {G : D → Sto → Prop} {Y : Addr → List (Str × D) → Sto → Prop} (q : G (.lst ordsD) S) : p__law_orders [] S G Y := ⟨rfl, q⟩
theorem lthree_ok {S : Sto} {p : Addr} {n : Int} {G : D → Sto → Prop} {Y : Addr → List (Str × D) → Sto → Prop} (h : Pu S p n) (hn : n < 900000) (q : ∀ a b c S', In1 a → In1 b → In1 c → Pu S' p (n + 20) → Ex1 p S S' → G (li a b c) S') : p__law_three [.ref p] S G Y := ⟨p, n, rfl, h, hn, q⟩
theorem li_at {a b c : Int} : atI [D.int a, .int b, .int c] 0 = some (.int a) ∧ atI [D.int a, .int b, .int c] 1 = some (.int b) ∧ atI [D.int a, .int b, .int c] 2 = some (.int c) := ⟨rfl, rfl, rfl⟩
section
variable {c : VS.Ctx} {S : Sto} {F : D → Sto → Prop}
theorem isi_sd {mg : Str → Option Value} {CS : Addr} {a b d : Int} (k : Kl_Sides c.K mg CS) (q : F (.bl true) S) : RC c (rIsiZ c.K) [sd CS a b d, .ref CS] S F := rc_isiO (.i .v k.ins) k.ins.me q
end
end LW
open LW
local macro_rules | `(tactic| walk_at "gp") => `(tactic| with_reducible refine told_ok ?_)
local macro_rules | `(tactic| walk_at "gp") => `(tactic| with_reducible refine ranked_ok ?_)
local macro_rules | `(tactic| walk_at "gp") => `(tactic| with_reducible refine ve_mkSd ?_)
local macro_rules | `(tactic| walk_at "gp") => `(tactic| ((with_reducible refine ex_sd ?_ ?_ ?_ ?_); (· first | assumption | (unfold In1 at *; omega)); (· first | assumption | (unfold In1 at *; omega)); (· first | assumption | (unfold In1 at *; omega))))
local macro_rules | `(tactic| walk_at "gp") => `(tactic| ((with_reducible refine lturn_ok ?_ ?_); (· assumption)))
local macro_rules | `(tactic| walk_at "gp") => `(tactic| with_reducible refine lords_ok ?_)
local macro_rules | `(tactic| walk_at "gp") => `(tactic| ((with_reducible apply lthree_ok); (· assumption); (· first | decide | omega)))
local macro_rules | `(tactic| walk_at "gp") => `(tactic| ((with_reducible apply isi_sd); (· assumption)))
local macro_rules | `(tactic| walk_at "gp") => `(tactic| ((with_reducible apply rv_ixL); (· exact .v); (· with_reducible exact li_at.1)))
local macro_rules | `(tactic| walk_at "gp") => `(tactic| ((with_reducible apply rv_ixL); (· exact .v); (· with_reducible exact li_at.2.1)))
local macro_rules | `(tactic| walk_at "gp") => `(tactic| ((with_reducible apply rv_ixL); (· exact .v); (· with_reducible exact li_at.2.2)))
namespace LW
open PySem L2 C8 PySem.Spec PyProof.Rows VS
end LW
namespace LW
open PySem L2 C8 PySem.Spec PyProof.Rows VS
def sidesText (a b c : Int) : Str := Str.empty ++ "Sides(" ++ toString a ++ ", " ++ toString b ++ ", " ++ toString c ++ ")"
def p_repr (CS : Addr) : Pt := fun ds S G _ => ∃ a b c, ds = [sd CS a b c] ∧ In1 a ∧ In1 b ∧ In1 c ∧ G (.str (sidesText a b c)) S
theorem int_len {a : Int} (h : In1 a) : (Str.ofString (toString a)).length ≤ 22 ∧ a.natAbs.log2 < 1920 := by
  unfold In1 at h
  have sh := Sh.int (i := a) (k := 20) (by omega) (by decide) (by decide)
  exact ⟨sh.l, of_decide_eq_true sh.s⟩
section
variable {P : Program} {w : World} {K : PySem.W.Frag} {mg : Str → Option Value} {base : Heap}
theorem ok_Sides___repr__ {f : Addr} {fd : FuncData} {C_Sides C_Parcel C_Heap C_NoSide C_NoNames : Addr}
    (F : Fd K "__repr__" "Sides.__repr__" s_Sides___repr__ [] f fd) (T : Tx K mg) (hsys : SysOk base)
    (k_Sides : Kl_Sides K mg C_Sides) :
    FnG P w K mg base (L2.CX P w) 1 f fd a_Sides___repr__ (spOf K (p_repr C_Sides)) := by
  refine VS.unbox ?_
  simp (disch := with_unfolding_all
    have kc_Sides := k_Sides.ins.cl
    have ka_Sides_three := k_Sides.a_three
    refine fn_val F sc_Sides___repr__ (fun ds S G Y h => ?_) (fun cdv A hgd outer s H E hr px tk po ds S G Y h => ?_)
    · obtain ⟨a, b, c, rfl, _⟩ := h
      rfl
    · obtain ⟨a, b, c, rfl, ha, hb, hc, q⟩ := h
      refine ⟨_, (pss_cons (ps_asg (pe_fld (pv 0) rfl) (pg_tup (n := 3) rfl (pgs_cons (pg_name (i := 1) sc_Sides___repr__.nd rfl (Or.inl rfl)) (pgs_cons (pg_name (i := 2) sc_Sides___repr__.nd rfl (Or.inl rfl)) (pgs_cons (pg_name (i := 3) sc_Sides___repr__.nd rfl (Or.inl rfl)) pgs_nil)))))
        (pss_one (ps_ret (pe_joined (.cons pe_str (.cons (pe_fmt (pv 1)) (.cons pe_str (.cons (pe_fmt (pv 2)) (.cons pe_str (.cons (pe_fmt (pv 3)) (.cons pe_str .nil))))))))))), ?_⟩
      (try dsimp only [cxOf, List.map])
      show VX _ _ [_, _, _, _] _ _
      obtain ⟨la, ga⟩ := int_len ha
      obtain ⟨lb, gb⟩ := int_len hb
      obtain ⟨lc, gc⟩ := int_len hc
      walk_at "go"
      refine ⟨_, _, _, .v, k_Sides.ins.cl, k_Sides.a_three, rfl, ?_⟩
      walk_at "go"
      have l1 : Str.empty.length = 0 := rfl
      have l2 : (Str.ofString "Sides(").length = 6 := by decide
      have l3 : (Str.ofString ", ").length = 2 := by decide
      have l4 : (Str.ofString ")").length = 1 := by decide
      have z := szl
      refine ve_fstr (vj_cons ?_)
      walk_at "go"
      refine ⟨by simp only [PySem.Str.length_append]; omega, vj_cons (ve_fmtI ?_)⟩
      walk_at "go"
      refine ⟨ga, _, rfl, by simp only [PySem.Str.length_append]; omega, vj_cons ?_⟩
      walk_at "go"
      refine ⟨by simp only [PySem.Str.length_append]; omega, vj_cons (ve_fmtI ?_)⟩
      walk_at "go"
      refine ⟨gb, _, rfl, by simp only [PySem.Str.length_append]; omega, vj_cons ?_⟩
      walk_at "go"
      refine ⟨by simp only [PySem.Str.length_append]; omega, vj_cons (ve_fmtI ?_)⟩
      walk_at "go"
      refine ⟨gc, _, rfl, by simp only [PySem.Str.length_append]; omega, vj_cons ?_⟩
      walk_at "go"
      refine ⟨by simp only [PySem.Str.length_append]; omega, vj_nil ?_⟩
      exact q) only [↓VS.box]
end
end LW
namespace LW
open PySem L2 C8 PySem.Spec PyProof.Rows VS
/-! ### data that may be shown and compared -/
structure Ok (d : D) (n k : Nat) : Prop where
  sh : Sh d n k
  s : SeqAt.shaped (pd d) = true
  l : ∀ zs, d = .tup zs → zs.length ≤ 1000
theorem Ok.mono {d : D} {n m k j : Nat} (h : Ok d n k) (a : n ≤ m) (b : k ≤ j) : Ok d m j := ⟨h.sh.mono a b, h.s, h.l⟩
theorem ok_all {n k : Nat} : ∀ {ys : List D}, (∀ y ∈ ys, Ok y n k) → ShL ys (ys.length * (n + 2)) k ∧ PyData.canLayAll0 (pdL ys) = true ∧ PyData.depthAll (pdL ys) ≤ k
  | [], _ => ⟨ShL.nil.mono (Nat.zero_le _) (Nat.zero_le _), rfl, Nat.zero_le _⟩
  | y :: ys, h => by
    obtain ⟨a, b, c⟩ := ok_all (ys := ys) fun z hz => h z (List.mem_cons_of_mem _ hz)
    have hy := h y (List.mem_cons_self ..)
    have s' : ((pd y).canLay0 && decide ((pd y).depth ≤ 64)) = true := hy.s
    rw [Bool.and_eq_true] at s'
    refine ⟨(ShL.cons hy.sh a).mono (by rw [List.length_cons, Nat.succ_mul]; omega) (Nat.max_le.mpr ⟨Nat.le_refl _, Nat.le_refl _⟩), ?_, Nat.max_le.mpr ⟨hy.sh.d, c⟩⟩
    show ((pd y).canLay0 && PyData.canLayAll0 (pdL ys)) = true
    rw [s'.1, b]; rfl
theorem Ok.tup {ys : List D} {n k : Nat} (m : Nat) (h : ∀ y ∈ ys, Ok y n k) (hl : ys.length ≤ m) (hm : m ≤ 1000) (hk : k + 1 ≤ 64) : Ok (.tup ys) (m * (n + 2) + 3) (k + 1) := by
  obtain ⟨a, b, c⟩ := ok_all h
  refine ⟨Sh.tup (a.mono (Nat.mul_le_mul_right _ hl) (Nat.le_refl _)), ?_, fun zs e => by injection e with e; rw [← e]; omega⟩
  show (PyData.canLayAll0 (pdL ys) && decide (PyData.depthAll (pdL ys) + 1 ≤ 64)) = true
  rw [b, decide_eq_true (by omega)]; rfl
theorem Ok.lst {ys : List D} {n k : Nat} (m : Nat) (h : ∀ y ∈ ys, Ok y n k) (hl : ys.length ≤ m) (hk : k + 1 ≤ 64) : Ok (.lst ys) (m * (n + 2) + 2) (k + 1) := by
  obtain ⟨a, b, c⟩ := ok_all h
  refine ⟨Sh.lst (a.mono (Nat.mul_le_mul_right _ hl) (Nat.le_refl _)), ?_, nofun⟩
  show (PyData.canLayAll0 (pdL ys) && decide (PyData.depthAll (pdL ys) + 1 ≤ 64)) = true
  rw [b, decide_eq_true (by omega)]; rfl
theorem all2 {Q : D → Prop} {a b : D} (h1 : Q a) (h2 : Q b) : ∀ y ∈ [a, b], Q y := fun y hy => by
  simp only [List.mem_cons, List.not_mem_nil, or_false] at hy
  rcases hy with rfl | rfl <;> assumption
theorem all3 {Q : D → Prop} {a b c : D} (h1 : Q a) (h2 : Q b) (h3 : Q c) : ∀ y ∈ [a, b, c], Q y := fun y hy => by
  simp only [List.mem_cons, List.not_mem_nil, or_false] at hy
  rcases hy with rfl | rfl | rfl <;> assumption
end LW
namespace LW
open PySem L2 C8 PySem.Spec PyProof.Rows VS
end LW
namespace LW
open PySem L2 C8 PySem.Spec PyProof.Rows VS
/-! ### names -/
def lcN (n : Nat) : Bool := decide (n ∈ ("abcdefghijklmnopqrstuvwxyz" : Str).cps.toList)
def lcs (x : Str) : Bool := x.cps.toList.all lcN
def nmB (x : Str) : Bool := (decide (1 ≤ (x.length : Int)) && decide ((x.length : Int) ≤ 8)) && lcs x
def p_is_name (K : PySem.W.Frag) : Pt := fun ds S G _ => ∃ d, ds = [d] ∧ ((∃ x : Str, d = .str x ∧ x.length ≤ 100000 ∧ G (.bl (nmB x)) S) ∨ ∃ t, OfC K S d t ∧ PySem.W.kitOne K t (.type "str") = some false ∧ G (.bl false) S)
theorem lcN_iff {n : Nat} : lcN n = true ↔ 97 ≤ n ∧ n ≤ 122 := by
  unfold lcN
  rw [decide_eq_true_eq]
  have e : ("abcdefghijklmnopqrstuvwxyz" : Str).cps.toList = [97, 98, 99, 100, 101, 102, 103, 104, 105, 106, 107, 108, 109, 110, 111, 112, 113, 114, 115, 116, 117, 118, 119, 120, 121, 122] := by decide +kernel
  rw [e]
  simp only [List.mem_cons, List.not_mem_nil, or_false]
  omega
theorem sum_le {n : Nat} : ∀ {ys : List Str}, (∀ y ∈ ys, y.length ≤ n) → (ys.map (·.length)).sum ≤ n * ys.length
  | [], _ => Nat.zero_le _
  | y :: ys, h => by
    have a := h y (.head _)
    have b := sum_le fun z hz => h z (.tail _ hz)
    rw [List.map_cons, List.sum_cons, List.length_cons, Nat.mul_succ]
    omega
/-- a word: small letters alone -/
def Lw (n : Nat) (z : Str) : Prop := z.length ≤ n ∧ ∀ c ∈ z.cps.toList, lcN c = true
theorem Lw.asc {n : Nat} {z : Str} (h : Lw n z) : Asc n z := ⟨h.1, fun c hc => by have := (lcN_iff.mp (h.2 c hc)).2; omega⟩
theorem Lw.mono {n m : Nat} {z : Str} (h : Lw n z) (l : n ≤ m) : Lw m z := ⟨Nat.le_trans h.1 l, h.2⟩
theorem Lw.add {n m : Nat} {x y : Str} (h : Lw n x) (k : Lw m y) : Lw (n + m) (x ++ y) := by
  refine ⟨by rw [len_add]; exact Nat.add_le_add h.1 k.1, fun c hc => ?_⟩
  rw [tl_add] at hc
  exact (List.mem_append.mp hc).elim (h.2 c) (k.2 c)
theorem Lw.cut {n : Nat} {x : Str} (h : Lw n x) (lo hi : Option Int) : Lw n (cutS x lo hi) := by
  refine ⟨Nat.le_trans (cutS_length x lo hi) h.1, fun c hc => h.2 c ?_⟩
  have hc' : c ∈ (x.cps.toList.drop (HT.sIx x.length 0 lo)).take (HT.sIx x.length x.length hi - HT.sIx x.length 0 lo) := hc
  exact List.mem_of_mem_drop (List.mem_of_mem_take hc')
theorem Lw.join0 {n : Nat} {ys : List Str} (h : ∀ y ∈ ys, Lw 1 y) (hl : ys.length ≤ n) : Lw n (Txt.join ("" : Str) ys) := by
  refine ⟨(Asc.join0 (fun y hy => (h y hy).asc) hl).1, fun c hc => ?_⟩
  rw [tl_join0] at hc
  obtain ⟨l, hl1, hl2⟩ := List.mem_flatten.mp hc
  obtain ⟨y, hy, rfl⟩ := List.mem_map.mp hl1
  exact (h y hy).2 c hl2
theorem Lw.one {n : Nat} (h : lcN n = true) : Lw 1 ⟨#[n]⟩ := ⟨Nat.le_refl _, fun c hc => by
  have : c = n := by simpa using hc
  rw [this]; exact h⟩
theorem Lw.lit {n : Nat} {z : Str} (h : (decide (z.length ≤ n) && z.cps.toList.all lcN) = true) : Lw n z := by
  rw [Bool.and_eq_true, decide_eq_true_eq, List.all_eq_true] at h
  exact ⟨h.1, fun c hc => h.2 c hc⟩
/-- a good name -/
def Nm (z : Str) : Prop := Lw 8 z ∧ 1 ≤ z.length
theorem Nm.ok {z : Str} (h : Nm z) : nmB z = true := by
  unfold nmB lcs
  rw [decide_eq_true (by have := h.2; omega), decide_eq_true (by have := h.1.1; omega), List.all_eq_true.mpr h.1.2]
  rfl
theorem cut_len (z : Str) (k : Nat) : (cutS z none (some (k : Int))).length = min k z.length := by
  rw [← str_len]
  show ((z.cps.toList.drop 0).take (HT.sIx z.length z.length (some (k : Int)) - 0)).length = _
  rw [HT.sIx_nat, List.length_take, List.drop_zero, str_len]
  omega
theorem lett_at {i : Int} (h0 : 0 ≤ i) (h1 : i < 26) : ∃ n, atI ("abcdefghijklmnopqrstuvwxyz" : Str).cps.toList i = some n ∧ lcN n = true := by
  obtain ⟨n, hn, e⟩ := atI_mem (xs := ("abcdefghijklmnopqrstuvwxyz" : Str).cps.toList) h0 (by rw [show ("abcdefghijklmnopqrstuvwxyz" : Str).cps.toList.length = 26 from by decide +kernel]; exact h1)
  exact ⟨n, e, decide_eq_true hn⟩
def lcD : D → D
  | .str y => .bl (lcN (y.cps.toList.headD 0))
  | _ => .non
theorem lcD_signs (x : Str) : (signsD x).map lcD = (x.cps.toList.map lcN).map D.bl := by
  unfold signsD
  rw [List.map_map, List.map_map]
  rfl
theorem lcs_all (x : Str) : (x.cps.toList.map lcN).all id = lcs x := by
  unfold lcs
  rw [List.all_map]
  rfl
theorem name_ok {K : PySem.W.Frag} {x : Str} {S : Sto} {G : D → Sto → Prop} {Y : Addr → List (Str × D) → Sto → Prop} (h : nmB x = true) (hl : x.length ≤ 100000) (q : G (.bl true) S) : p_is_name K [.str x] S G Y :=
  ⟨_, rfl, .inl ⟨x, rfl, hl, by rw [h]; exact q⟩⟩
section
variable {P : Program} {w : World} {K : PySem.W.Frag} {mg : Str → Option Value} {base : Heap}
theorem ok_is_name {f : Addr} {fd : FuncData} {C_Sides C_Parcel C_Heap C_NoSide C_NoNames : Addr}
    (F : Fd K "is_name" "is_name" s_is_name [] f fd) (T : Tx K mg) (hsys : SysOk base) :
    FnG P w K mg base (L2.CX P w) 1 f fd a_is_name (spOf K (p_is_name K)) := by
  refine VS.unbox ?_
  simp (disch := with_unfolding_all
    refine fn_val F sc_is_name (fun ds S G Y h => ?_) (fun cdv A hgd outer s H E hr px tk po ds S G Y h => ?_)
    · obtain ⟨d, rfl, _⟩ := h
      rfl
    · obtain ⟨d, rfl, h⟩ := h
      refine ⟨_, (pss_cons (ps_if (PW.pt (pw_or (pt_not (pt_val (pe_callB c_isiZ (by rfl) T.b_isinstance (by decide +kernel) (pa_cons (pv 0) (pa_cons (pe_bltn (v := .ty "str") (by rfl) T.b_str (by decide +kernel) rfl) pa_nil))))) (pw_or1 (pt_not (pt_chain op_le op_le pe_int (pe_callB c_len (by rfl) T.b_len (by decide +kernel) (pa_cons (pv 0) pa_nil)) pe_int))))) (pss_one (ps_ret pe_bl))
        pss_nil)
        (pss_one (ps_ret (pe_callB (cr_all rfl) (by rfl) T.b_all (by decide +kernel) (pa_cons (pe_lc (own := [("sign", 1)]) rfl sc_is_name.nd (pi_str (pv 0)) (blkOk_by (own := [("sign", 1)]) (N := n_is_name) (sc := defScope s_is_name) (by decide +kernel)) (fun _ _ _ _ _ => (pg_name (i := 1) sc_is_name.nd rfl (Or.inl rfl))) (fun _ _ _ _ _ => pts_nil) (fun _ _ _ _ _ => (pe_cmpR op_inStr (pv 1) (pe_gc (by rfl) T.c_LETTERS) (by rfl)))) pa_nil))))), ?_⟩
      (try dsimp only [cxOf, List.map])
      show VX _ _ [_, _] _ _
      walk_at "ga"
      rcases h with ⟨x, rfl, hl, q⟩ | ⟨t, ot, kt, q⟩
      · walk_at "ga"
        have no : ¬ (1 ≤ (x.length : Int) ∧ (x.length : Int) ≤ 8) → nmB x = false := fun z => by
          unfold nmB
          by_cases z1 : 1 ≤ (x.length : Int)
          · by_cases z2 : (x.length : Int) ≤ 8
            · exact absurd ⟨z1, z2⟩ z
            · rw [decide_eq_false z2, Bool.and_false, Bool.false_and]
          · rw [decide_eq_false z1, Bool.false_and, Bool.false_and]
        refine br (fun h1 => ?_) (fun h1 => ?_)
        · walk_at "ga"
          refine brN (fun h2 => ?_) (fun h2 => ?_)
          · walk_at "ga"
            rw [no (fun z => h2 z.2)] at q
            exact q
          · walk_at "ga"
            refine ve_lcM lcD (vi_str ?_)
            walk_at "ga"
            refine ⟨by unfold signsD; rw [List.length_map]; show x.cps.size ≤ 100000; exact hl, fun d hd => ?_, ?_⟩
            · obtain ⟨n, _, rfl⟩ := List.mem_map.mp hd
              walk_at "ga"
              refine ⟨rfl, ?_⟩
              walk_at "ga"
              exact ⟨rfl, rfl⟩
            · rw [lcD_signs]
              walk_at "ga"
              refine rc_all (bs := x.cps.toList.map lcN) .v ?_
              walk_at "ga"
              rw [lcs_all]
              have e : nmB x = lcs x := by
                unfold nmB
                rw [decide_eq_true h1, decide_eq_true h2, Bool.true_and, Bool.true_and]
              rw [← e]
              exact q
        · walk_at "ga"
          rw [no (fun z => h1 z.1)] at q
          exact q
      · refine rc_isiP ot kt ?_
        walk_at "ga"
        exact q) only [↓VS.box]
end
end LW
namespace LW
open PySem L2 C8 PySem.Spec PyProof.Rows VS
/-! ### parcels by value, well made -/
def labs : List Str := ["alone", "top", "upright"]
/-- good labels -/
structure Mk (ms : List Str) : Prop where
  l : ms.length ≤ 3
  e : ∀ m ∈ ms, m ∈ labs
  n : ms.Nodup
def mksOf (ms : List Str) : List Str := labs.filter fun m => decide (m ∈ ms)
def pcD (CP CS : Addr) (nm : Str) (a b c wl wt br : Int) (mk : List Str) : D := .ins CP [("called", .str nm), ("outside", sd CS a b c), ("thick", .int wl), ("heavy", .int wt), ("strong", .int br), ("marks", .lst (mk.map D.str))]
structure Pg (nm : Str) (a b c wl wt br : Int) (mk : List Str) : Prop where
  gn : nmB nm = true
  ln : nm.length ≤ 8
  a : In1 a
  b : In1 b
  c : In1 c
  wl : 1 ≤ wl ∧ wl ≤ 1000
  wt : 0 ≤ wt ∧ wt ≤ 100000
  br : 0 ≤ br ∧ br ≤ 100000
  lb : Mk mk
def p_are_labels : Pt := fun ds S G _ => ∃ ms : List Str, ds = [.lst (ms.map D.str)] ∧ Mk ms ∧ G (.bl true) S
def p_Pc_init (CP CS : Addr) : Pt := fun ds S G _ => ∃ y nm a b c wl wt br mk, ds = [.ref y, .str nm, sd CS a b c, .int wl, .int wt, .int br, .lst (mk.map D.str)] ∧ S y = some (.ins CP []) ∧ Pg nm a b c wl wt br mk ∧
  G .non (put S y (pcD CP CS nm a b c wl wt br (mksOf mk)))
def p_Pc_name (CP CS : Addr) : Pt := fun ds S G _ => ∃ nm a b c wl wt br mk, ds = [pcD CP CS nm a b c wl wt br mk] ∧ G (.str nm) S
def p_Pc_sides (CP CS : Addr) : Pt := fun ds S G _ => ∃ nm a b c wl wt br mk, ds = [pcD CP CS nm a b c wl wt br mk] ∧ G (sd CS a b c) S
theorem flat_strs : ∀ ms : List Str, (ms.map D.str).all flatD = true
  | [] => rfl
  | m :: ms => by
    rw [List.map_cons, List.all_cons, flat_strs ms]
    rfl
theorem inD_strs {m : Str} (ms : List Str) : inD (.str m) (ms.map D.str) = decide (m ∈ ms) := by
  unfold inD
  rw [List.any_map, Bool.eq_iff_iff, List.any_eq_true, decide_eq_true_eq]
  exact ⟨fun ⟨x, hx, e⟩ => by have e : (x == m) = true := e; rw [← eq_of_beq e]; exact hx, fun h => ⟨m, h, by show (m == m) = true; exact beq_self_eq_true m⟩⟩
theorem Pg.asc {nm : Str} {a b c wl wt br : Int} {mk : List Str} (g : Pg nm a b c wl wt br mk) : Asc 8 nm := by
  refine ⟨g.ln, fun c hc => ?_⟩
  have h := g.gn
  unfold nmB at h
  rw [Bool.and_eq_true] at h
  have h2 := List.all_eq_true.mp h.2 c hc
  have := (lcN_iff.mp h2).2
  omega
theorem labs_in {m : Str} : inD (.str m) [.str "alone", .str "top", .str "upright"] = decide (m ∈ labs) := by
  unfold inD labs
  simp only [List.any_cons, List.any_nil, Bool.or_false, List.mem_cons, List.not_mem_nil, or_false]
  rw [Bool.eq_iff_iff]
  simp only [eqD, Bool.or_eq_true, beq_iff_eq, decide_eq_true_eq]
  exact ⟨fun h => h.imp Eq.symm (·.imp Eq.symm Eq.symm), fun h => h.imp Eq.symm (·.imp Eq.symm Eq.symm)⟩
theorem wh_ok {K : PySem.W.Frag} {i lo hi : Int} (h : lo ≤ i ∧ i ≤ hi) {S : Sto} {G : D → Sto → Prop} {Y : Addr → List (Str × D) → Sto → Prop} (q : G (.bl true) S) : p_is_whole K [.int i, .int lo, .int hi] S G Y :=
  ⟨_, _, lo, hi, rfl, .i i, by rw [whB_of h]; exact q⟩
section
variable {P : Program} {w : World} {K : PySem.W.Frag} {mg : Str → Option Value} {base : Heap}
theorem ok_are_labels {f : Addr} {fd : FuncData} {C_Sides C_Parcel C_Heap C_NoSide C_NoNames : Addr}
    (F : Fd K "are_labels" "are_labels" s_are_labels [] f fd) (T : Tx K mg) (hsys : SysOk base) :
    FnG P w K mg base (L2.CX P w) 1 f fd a_are_labels (spOf K p_are_labels) := by
  refine VS.unbox ?_
  simp (disch := with_unfolding_all
    refine fn_val F sc_are_labels (fun ds S G Y h => ?_) (fun cdv A hgd outer s H E hr px tk po ds S G Y h => ?_)
    · obtain ⟨ms, rfl, _⟩ := h
      rfl
    · obtain ⟨ms, rfl, hm, q⟩ := h
      obtain ⟨aL, hL, rL⟩ := T.c_LABELS
      refine ⟨_, (pss_cons (ps_if (pt_cmpR op_isNo (pv 0) pe_non (nomark _)) (pss_one (ps_ret pe_bl))
        pss_nil)
        (pss_cons (ps_if (PW.pt (pw_or (pt_not (pt_val (pe_callB c_isiV (by rfl) T.b_isinstance (by decide +kernel) (pa_cons (pv 0) (pa_cons (pe_tup (pa_cons (pe_bltn (v := .ty "list") (by rfl) T.b_list (by decide +kernel) rfl) (pa_cons (pe_bltn (v := .ty "tuple") (by rfl) T.b_tuple (by decide +kernel) rfl) pa_nil))) pa_nil))))) (pw_or1 (pt_cmpR op_gt (pe_callB c_len (by rfl) T.b_len (by decide +kernel) (pa_cons (pv 0) pa_nil)) (pe_callB c_len (by rfl) T.b_len (by decide +kernel) (pa_cons (pe_kd (by rfl) hL) pa_nil)) (nomark _))))) (pss_one (ps_ret pe_bl))
        pss_nil)
        (pss_cons (ps_if (pt_not (pt_val (pe_callB (cr_all rfl) (by rfl) T.b_all (by decide +kernel) (pa_cons (pe_lc (own := [("word", 1)]) rfl sc_are_labels.nd (pi_list (pv 0)) (blkOk_by (own := [("word", 1)]) (N := n_are_labels) (sc := defScope s_are_labels) (by decide +kernel)) (fun _ _ _ _ _ => (pg_name (i := 1) sc_are_labels.nd rfl (Or.inl rfl))) (fun _ _ _ _ _ => pts_nil) (fun _ _ _ _ _ => (pe_and (pe_callB (kC (K := K) (r := rIsiZ) c_isiZ) (by rfl) T.b_isinstance (by decide +kernel) (pa_cons (pv 1) (pa_cons (pe_bltn (v := .ty "str") (by rfl) T.b_str (by decide +kernel) rfl) pa_nil))) (pe_one (pe_cmpR (kO (K := K) (r := (fun K => rIn K false)) op_in_seq) (pv 1) (pe_kd (by rfl) hL) (by rfl)))))) pa_nil)))) (pss_one (ps_ret pe_bl))
        pss_nil)
        (pss_one (ps_ret (pe_cmpR op_eq (pe_lenS (by rfl) T.b_len (by rfl) T.b_set (pv 0)) (pe_callB c_len (by rfl) T.b_len (by decide +kernel) (pa_cons (pv 0) pa_nil)) (nomark _))))))), ?_⟩
      (try dsimp only [cxOf, List.map])
      show VX _ _ [_, _] _ _
      walk_at "ga"
      refine rc_isiLT (.v (isP_strs ms)) ?_
      walk_at "ga"
      refine br (fun h => ?_) (fun _ => ?_)
      · have := hm.l
        simp only [List.length_map] at h
        have h : (ms.length : Int) > 3 := h
        omega
      walk_at "ga"
      refine ve_lcM (fun _ => .bl true) (vi_list ?_)
      walk_at "ga"
      refine ⟨_, .v, ?_⟩
      have len := hm.l
      refine ⟨by rw [List.length_map]; omega, fun d hd => ?_, ?_⟩
      · obtain ⟨m, hm', rfl⟩ := List.mem_map.mp hd
        have el := hm.e m hm'
        walk_at "ga"
        refine ⟨rfl, ?_⟩
        walk_at "ga"
        refine rv_in .t rfl rfl ?_
        rw [labs_in, decide_eq_true el]
        exact ⟨rfl, rfl⟩
      walk_at "ga"
      refine rc_all (bs := ms.map fun _ => true) (by rw [List.map_map, List.map_map]; exact .v) ?_
      walk_at "ga"
      have al : (ms.map fun _ => true).all id = true := by
        rw [List.all_eq_true]
        intro b hb
        obtain ⟨_, _, rfl⟩ := List.mem_map.mp hb
        rfl
      rw [al]
      walk_at "ga"
      refine ve_lenS ?_
      walk_at "ga"
      refine ⟨ms, .l .v, by omega, ?_⟩
      walk_at "ga"
      rw [unl_nodup hm.n _ (Nat.le_refl _), List.length_map, decide_eq_true rfl]
      exact q) only [↓VS.box]
theorem ok_Parcel___init__ {f : Addr} {fd : FuncData} {C_Sides C_Parcel C_Heap C_NoSide C_NoNames : Addr} {f_is_name f_is_whole f_are_labels : Addr} {g_is_name g_is_whole g_are_labels : FuncData}
    (F : Fd K "__init__" "Parcel.__init__" s_Parcel___init__ [.int 1, .int 0, .int 0, .non] f fd) (T : Tx K mg) (hsys : SysOk base)
    (c_is_name : Cf P w K mg base (L2.CX P w) 1 "is_name" s_is_name [] a_is_name (p_is_name K) f_is_name g_is_name)
    (c_is_whole : Cf P w K mg base (L2.CX P w) 1 "is_whole" s_is_whole [] a_is_whole (p_is_whole K) f_is_whole g_is_whole)
    (c_are_labels : Cf P w K mg base (L2.CX P w) 1 "are_labels" s_are_labels [] a_are_labels p_are_labels f_are_labels g_are_labels)
    (k_Sides : Kl_Sides K mg C_Sides)
    (k_Parcel : Kl_Parcel K mg C_Parcel) :
    FnG P w K mg base (L2.CX P w) 3 f fd a_Parcel___init__ (spOf K (p_Pc_init C_Parcel C_Sides)) := by
  refine VS.unbox ?_
  simp (disch := with_unfolding_all
    have kc_Sides := k_Sides.ins.cl
    have ka_Sides_three := k_Sides.a_three
    have kc_Parcel := k_Parcel.ins.cl
    have ka_Parcel_called := k_Parcel.a_called
    have ka_Parcel_outside := k_Parcel.a_outside
    have ka_Parcel_thick := k_Parcel.a_thick
    have ka_Parcel_heavy := k_Parcel.a_heavy
    have ka_Parcel_strong := k_Parcel.a_strong
    have ka_Parcel_marks := k_Parcel.a_marks
    have ka_Parcel_told := k_Parcel.a_told
    have ka_Parcel_names := k_Parcel.a_names
    refine fn_val F sc_Parcel___init__ (fun ds S G Y h => ?_) (fun cdv A hgd outer s H E hr px tk po ds S G Y h => ?_)
    · obtain ⟨y, nm, a, b, c, wl, wt, br, mk, rfl, _⟩ := h
      rfl
    · obtain ⟨y, nm, a, b, c, wl, wt, br, mk, rfl, hy, g, q⟩ := h
      obtain ⟨aL, hL, rL⟩ := T.c_LABELS
      refine ⟨_, (pss_cons (ps_if (pt_not (pt_val (pe_cG c_is_name.fn hgd (hr.mono (by decide)) (by rfl) c_is_name.mg c_is_name.kp c_is_name.b .nil VS.pass0 (pa_cons (pv 1) pa_nil)))) (pss_one ps_nev)
        pss_nil)
        (pss_cons (ps_if (pt_not (pt_val (pe_callB c_isiZ (by rfl) T.b_isinstance (by decide +kernel) (pa_cons (pv 2) (pa_cons (pe_gc (v := .ref C_Sides) (by rfl) ⟨_, k_Sides.at_, rfl⟩) pa_nil))))) (pss_one ps_nev)
        pss_nil)
        (pss_cons (ps_if (pt_not (pt_val (pe_cG c_is_whole.fn hgd (hr.mono (by decide)) (by rfl) c_is_whole.mg c_is_whole.kp c_is_whole.b .nil VS.pass0 (pa_cons (pv 3) (pa_cons pe_int (pa_cons (pe_gc (by rfl) T.c_MOST_WALL) pa_nil)))))) (pss_one ps_nev)
        pss_nil)
        (pss_cons (ps_for po rfl (pi_tup (pe_tup (pa_cons (pv 4) (pa_cons (pv 5) pa_nil)))) (pg_name (i := 7) sc_Parcel___init__.nd rfl (Or.inl rfl))
        (pss_one (ps_if (pt_not (pt_val (pe_cG c_is_whole.fn hgd (hr.mono (by decide)) (by rfl) c_is_whole.mg c_is_whole.kp c_is_whole.b .nil VS.pass0 (pa_cons (pv 7) (pa_cons pe_int (pa_cons (pe_gc (by rfl) T.c_MOST_WEIGHT) pa_nil)))))) (pss_one ps_nev)
        pss_nil)))
        (pss_cons (ps_if (pt_not (pt_val (pe_cG c_are_labels.fn hgd (hr.mono (by decide)) (by rfl) c_are_labels.mg c_are_labels.kp c_are_labels.b .nil VS.pass0 (pa_cons (pv 6) pa_nil)))) (pss_one ps_nev)
        pss_nil)
        (pss_cons (ps_fld (pv 0) (pv 1) rfl)
        (pss_cons (ps_fld (pv 0) (pv 2) rfl)
        (pss_cons (ps_fld (pv 0) (pv 3) rfl)
        (pss_cons (ps_fld (pv 0) (pv 4) rfl)
        (pss_cons (ps_fld (pv 0) (pv 5) rfl)
        (pss_one (ps_fld (pv 0) (pe_lc (own := [("word", 8)]) rfl sc_Parcel___init__.nd (pi_tup (pe_kd (by rfl) hL)) (blkOk_by (own := [("word", 8)]) (N := n_Parcel___init__) (sc := defScope s_Parcel___init__) (by decide +kernel)) (fun _ _ _ _ _ => (pg_name (i := 8) sc_Parcel___init__.nd rfl (Or.inl rfl))) (fun _ _ _ _ _ => (pts_one (PW.pt (pw_and (pt_cmpR op_notNo (pv 6) pe_non (nomark _)) (pw_and1 (pt_cmpR (kO (K := K) (r := (fun K => rIn K false)) op_in_seq) (pv 8) (pv 6) (by rfl))))))) (fun _ _ _ _ _ => (pv 8))) rfl)))))))))))), ?_⟩
      (try dsimp only [cxOf, List.map])
      show VX _ _ [_, _, _, _, _, _, _, _, _] _ _
      walk_at "ga"
      refine name_ok g.gn (Nat.le_trans g.ln (by decide)) ?_
      walk_at "ga"
      refine wh_ok g.wl ?_
      walk_at "ga"
      refine vx_for (vi_tup ?_)
      walk_at "ga"
      refine ⟨_, rfl, fun i ρ2 S2 => S2 = S ∧ ∃ x, ρ2 = [some (.ref y), some (.str nm), some (sd C_Sides a b c), some (.int wl), some (.int wt), some (.int br), some (.lst (mk.map D.str)), x, none], ⟨rfl, _, rfl⟩, ?_, ?_⟩
      · rintro i d ρ2 S2 hd ⟨rfl, x, rfl⟩
        obtain ⟨n, rfl, hn⟩ : ∃ n, d = .int n ∧ 0 ≤ n ∧ n ≤ 100000 := by
          have := List.mem_of_getElem? hd
          simp only [List.mem_cons, List.not_mem_nil, or_false] at this
          rcases this with rfl | rfl
          · exact ⟨_, rfl, g.wt⟩
          · exact ⟨_, rfl, g.br⟩
        walk_at "ga"
        refine wh_ok hn ?_
        walk_at "ga"
        exact ⟨rfl, _, rfl⟩
      · rintro ρ2 S2 ⟨rfl, x, rfl⟩
        walk_at "ga"
        refine ⟨mk, rfl, g.lb, ?_⟩
        walk_at "ga"
        refine ⟨y, C_Parcel, _, rfl, put_same, kc_Parcel, ka_Parcel_outside, by show 1 < 1000; decide, ?_⟩
        walk_at "ga"
        refine ⟨y, C_Parcel, _, rfl, put_same, kc_Parcel, ka_Parcel_thick, by show 2 < 1000; decide, ?_⟩
        walk_at "ga"
        refine ⟨y, C_Parcel, _, rfl, put_same, kc_Parcel, ka_Parcel_heavy, by show 3 < 1000; decide, ?_⟩
        walk_at "ga"
        refine ⟨y, C_Parcel, _, rfl, put_same, kc_Parcel, ka_Parcel_strong, by show 4 < 1000; decide, ?_⟩
        walk_at "ga"
        simp only [put_put]
        generalize hS : VS.put S2 y _ = S3
        refine ve_lcF (fun d => inD d (mk.map D.str)) id (vi_tup ?_)
        walk_at "ga"
        refine ⟨_, rfl, by show 3 ≤ 100000; decide, all3 ?_ ?_ ?_, ?_⟩
        · walk_at "ga"
          refine rv_in (.l .v) rfl (flat_strs mk) ?_
          walk_at "ga"
          exact ⟨rfl, fun _ => rfl, fun _ => by walk_at "ga"; exact ⟨rfl, rfl⟩⟩
        · walk_at "ga"
          refine rv_in (.l .v) rfl (flat_strs mk) ?_
          walk_at "ga"
          exact ⟨rfl, fun _ => rfl, fun _ => by walk_at "ga"; exact ⟨rfl, rfl⟩⟩
        · walk_at "ga"
          refine rv_in (.l .v) rfl (flat_strs mk) ?_
          walk_at "ga"
          exact ⟨rfl, fun _ => rfl, fun _ => by walk_at "ga"; exact ⟨rfl, rfl⟩⟩
        subst hS
        walk_at "ga"
        refine ⟨y, C_Parcel, _, rfl, put_same, kc_Parcel, ka_Parcel_marks, by show 5 < 1000; decide, ?_⟩
        rw [put_put]
        have e : List.map id (List.filter (fun d => inD d (mk.map D.str)) [D.str "alone", D.str "top", D.str "upright"]) = (mksOf mk).map D.str := by
          rw [List.map_id]
          show (labs.map D.str).filter _ = _
          rw [List.filter_map]
          unfold mksOf
          congr 1
          apply List.filter_congr
          intro m _
          exact inD_strs mk
        rw [e]
        exact q) only [↓VS.box]
theorem ok_Parcel_name {f : Addr} {fd : FuncData} {C_Sides C_Parcel C_Heap C_NoSide C_NoNames : Addr}
    (F : Fd K "name" "Parcel.name" s_Parcel_name [] f fd) (T : Tx K mg) (hsys : SysOk base)
    (k_Parcel : Kl_Parcel K mg C_Parcel)
    (k_Sides : Kl_Sides K mg C_Sides) :
    FnG P w K mg base (L2.CX P w) 1 f fd a_Parcel_name (spOf K (p_Pc_name C_Parcel C_Sides)) := by
  refine VS.unbox ?_
  simp (disch := with_unfolding_all
    have kc_Parcel := k_Parcel.ins.cl
    have ka_Parcel_called := k_Parcel.a_called
    have ka_Parcel_outside := k_Parcel.a_outside
    have ka_Parcel_thick := k_Parcel.a_thick
    have ka_Parcel_heavy := k_Parcel.a_heavy
    have ka_Parcel_strong := k_Parcel.a_strong
    have ka_Parcel_marks := k_Parcel.a_marks
    have ka_Parcel_told := k_Parcel.a_told
    have ka_Parcel_names := k_Parcel.a_names
    have kc_Sides := k_Sides.ins.cl
    have ka_Sides_three := k_Sides.a_three
    refine fn_val F sc_Parcel_name (fun ds S G Y h => ?_) (fun cdv A hgd outer s H E hr px tk po ds S G Y h => ?_)
    · obtain ⟨nm, a, b, c, wl, wt, br, mk, rfl, _⟩ := h
      rfl
    · obtain ⟨nm, a, b, c, wl, wt, br, mk, rfl, q⟩ := h
      refine ⟨_, (pss_one (ps_ret (pe_fld (pv 0) rfl))), ?_⟩
      (try dsimp only [cxOf, List.map])
      show VX _ _ [_] _ _
      walk_at "ga"
      exact q) only [↓VS.box]
theorem ok_Parcel_sides {f : Addr} {fd : FuncData} {C_Sides C_Parcel C_Heap C_NoSide C_NoNames : Addr}
    (F : Fd K "sides" "Parcel.sides" s_Parcel_sides [] f fd) (T : Tx K mg) (hsys : SysOk base)
    (k_Parcel : Kl_Parcel K mg C_Parcel)
    (k_Sides : Kl_Sides K mg C_Sides) :
    FnG P w K mg base (L2.CX P w) 1 f fd a_Parcel_sides (spOf K (p_Pc_sides C_Parcel C_Sides)) := by
  refine VS.unbox ?_
  simp (disch := with_unfolding_all
    have kc_Parcel := k_Parcel.ins.cl
    have ka_Parcel_called := k_Parcel.a_called
    have ka_Parcel_outside := k_Parcel.a_outside
    have ka_Parcel_thick := k_Parcel.a_thick
    have ka_Parcel_heavy := k_Parcel.a_heavy
    have ka_Parcel_strong := k_Parcel.a_strong
    have ka_Parcel_marks := k_Parcel.a_marks
    have ka_Parcel_told := k_Parcel.a_told
    have ka_Parcel_names := k_Parcel.a_names
    have kc_Sides := k_Sides.ins.cl
    have ka_Sides_three := k_Sides.a_three
    refine fn_val F sc_Parcel_sides (fun ds S G Y h => ?_) (fun cdv A hgd outer s H E hr px tk po ds S G Y h => ?_)
    · obtain ⟨nm, a, b, c, wl, wt, br, mk, rfl, _⟩ := h
      rfl
    · obtain ⟨nm, a, b, c, wl, wt, br, mk, rfl, q⟩ := h
      refine ⟨_, (pss_one (ps_ret (pe_fld (pv 0) rfl))), ?_⟩
      (try dsimp only [cxOf, List.map])
      show VX _ _ [_] _ _
      walk_at "ga"
      exact q) only [↓VS.box]
end
end LW
namespace LW
open PySem L2 C8 PySem.Spec PyProof.Rows VS
/-! ### a parcel's labels -/
def p_Pc_labels (CP CS : Addr) : Pt := fun ds S G _ => ∃ nm a b c wl wt br mk, ds = [pcD CP CS nm a b c wl wt br mk] ∧ ∀ l, S l = none → G (.ref l) (put S l (.lst (mk.map D.str)))
section
variable {P : Program} {w : World} {K : PySem.W.Frag} {mg : Str → Option Value} {base : Heap}
theorem ok_Parcel_labels {f : Addr} {fd : FuncData} {C_Sides C_Parcel C_Heap C_NoSide C_NoNames : Addr}
    (F : Fd K "labels" "Parcel.labels" s_Parcel_labels [] f fd) (T : Tx K mg) (hsys : SysOk base)
    (k_Parcel : Kl_Parcel K mg C_Parcel)
    (k_Sides : Kl_Sides K mg C_Sides) :
    FnG P w K mg base (L2.CX P w) 1 f fd a_Parcel_labels (spOf K (p_Pc_labels C_Parcel C_Sides)) := by
  refine VS.unbox ?_
  simp (disch := with_unfolding_all
    have kc_Parcel := k_Parcel.ins.cl
    have ka_Parcel_called := k_Parcel.a_called
    have ka_Parcel_outside := k_Parcel.a_outside
    have ka_Parcel_thick := k_Parcel.a_thick
    have ka_Parcel_heavy := k_Parcel.a_heavy
    have ka_Parcel_strong := k_Parcel.a_strong
    have ka_Parcel_marks := k_Parcel.a_marks
    have ka_Parcel_told := k_Parcel.a_told
    have ka_Parcel_names := k_Parcel.a_names
    have kc_Sides := k_Sides.ins.cl
    have ka_Sides_three := k_Sides.a_three
    refine fn_val F sc_Parcel_labels (fun ds S G Y h => ?_) (fun cdv A hgd outer s H E hr px tk po ds S G Y h => ?_)
    · obtain ⟨nm, a, b, c, wl, wt, br, mk, rfl, _⟩ := h
      rfl
    · obtain ⟨nm, a, b, c, wl, wt, br, mk, rfl, q⟩ := h
      refine ⟨_, (pss_one (ps_ret (pe_callTy c_list (by rfl) T.b_list (by decide +kernel) (pa_cons (pe_fld (pv 0) rfl) pa_nil)))), ?_⟩
      (try dsimp only [cxOf, List.map])
      show VX _ _ [_] _ _
      walk_at "gr"
      exact rc_listc (.l .v) q) only [↓VS.box]
end
end LW
namespace LW
open PySem L2 C8 PySem.Spec PyProof.Rows VS
/-! ### a parcel's numbers -/
def p_Pc_weight (CP CS : Addr) : Pt := fun ds S G _ => ∃ nm a b c wl wt br mk, ds = [pcD CP CS nm a b c wl wt br mk] ∧ G (.int wt) S
def p_Pc_bears (CP CS : Addr) : Pt := fun ds S G _ => ∃ nm a b c wl wt br mk, ds = [pcD CP CS nm a b c wl wt br mk] ∧ G (.int br) S
section
variable {P : Program} {w : World} {K : PySem.W.Frag} {mg : Str → Option Value} {base : Heap}
theorem ok_Parcel_weight {f : Addr} {fd : FuncData} {C_Sides C_Parcel C_Heap C_NoSide C_NoNames : Addr}
    (F : Fd K "weight" "Parcel.weight" s_Parcel_weight [] f fd) (T : Tx K mg) (hsys : SysOk base)
    (k_Parcel : Kl_Parcel K mg C_Parcel)
    (k_Sides : Kl_Sides K mg C_Sides) :
    FnG P w K mg base (L2.CX P w) 1 f fd a_Parcel_weight (spOf K (p_Pc_weight C_Parcel C_Sides)) := by
  refine VS.unbox ?_
  simp (disch := with_unfolding_all
    have kc_Parcel := k_Parcel.ins.cl
    have ka_Parcel_called := k_Parcel.a_called
    have ka_Parcel_outside := k_Parcel.a_outside
    have ka_Parcel_thick := k_Parcel.a_thick
    have ka_Parcel_heavy := k_Parcel.a_heavy
    have ka_Parcel_strong := k_Parcel.a_strong
    have ka_Parcel_marks := k_Parcel.a_marks
    have ka_Parcel_told := k_Parcel.a_told
    have ka_Parcel_names := k_Parcel.a_names
    have kc_Sides := k_Sides.ins.cl
    have ka_Sides_three := k_Sides.a_three
    refine fn_val F sc_Parcel_weight (fun ds S G Y h => ?_) (fun cdv A hgd outer s H E hr px tk po ds S G Y h => ?_)
    · obtain ⟨nm, a, b, c, wl, wt, br, mk, rfl, _⟩ := h
      rfl
    · obtain ⟨nm, a, b, c, wl, wt, br, mk, rfl, q⟩ := h
      refine ⟨_, (pss_one (ps_ret (pe_fld (pv 0) rfl))), ?_⟩
      (try dsimp only [cxOf, List.map])
      show VX _ _ [_] _ _
      walk_at "ga"
      exact q) only [↓VS.box]
theorem ok_Parcel_bears {f : Addr} {fd : FuncData} {C_Sides C_Parcel C_Heap C_NoSide C_NoNames : Addr}
    (F : Fd K "bears" "Parcel.bears" s_Parcel_bears [] f fd) (T : Tx K mg) (hsys : SysOk base)
    (k_Parcel : Kl_Parcel K mg C_Parcel)
    (k_Sides : Kl_Sides K mg C_Sides) :
    FnG P w K mg base (L2.CX P w) 1 f fd a_Parcel_bears (spOf K (p_Pc_bears C_Parcel C_Sides)) := by
  refine VS.unbox ?_
  simp (disch := with_unfolding_all
    have kc_Parcel := k_Parcel.ins.cl
    have ka_Parcel_called := k_Parcel.a_called
    have ka_Parcel_outside := k_Parcel.a_outside
    have ka_Parcel_thick := k_Parcel.a_thick
    have ka_Parcel_heavy := k_Parcel.a_heavy
    have ka_Parcel_strong := k_Parcel.a_strong
    have ka_Parcel_marks := k_Parcel.a_marks
    have ka_Parcel_told := k_Parcel.a_told
    have ka_Parcel_names := k_Parcel.a_names
    have kc_Sides := k_Sides.ins.cl
    have ka_Sides_three := k_Sides.a_three
    refine fn_val F sc_Parcel_bears (fun ds S G Y h => ?_) (fun cdv A hgd outer s H E hr px tk po ds S G Y h => ?_)
    · obtain ⟨nm, a, b, c, wl, wt, br, mk, rfl, _⟩ := h
      rfl
    · obtain ⟨nm, a, b, c, wl, wt, br, mk, rfl, q⟩ := h
      refine ⟨_, (pss_one (ps_ret (pe_fld (pv 0) rfl))), ?_⟩
      (try dsimp only [cxOf, List.map])
      show VX _ _ [_] _ _
      walk_at "ga"
      exact q) only [↓VS.box]
end
end LW
namespace LW
open PySem L2 C8 PySem.Spec PyProof.Rows VS
/-! ### heaps, known by reference -/
structure Pc where
  of ::
  nm : Str
  a : Int
  b : Int
  c : Int
  wl : Int
  wt : Int
  br : Int
  mk : List Str
def Pc.d (CP CS : Addr) (p : Pc) : D := pcD CP CS p.nm p.a p.b p.c p.wl p.wt p.br p.mk
def Pc.g (p : Pc) : Prop := Pg p.nm p.a p.b p.c p.wl p.wt p.br p.mk
/-- parcels that stand in a heap -/
structure Hps (ps : List Pc) : Prop where
  g : ∀ p ∈ ps, p.g
  n : (ps.map Pc.nm).Nodup
  l : ps.length ≤ 12
def HpS (S : Sto) (CH CP CS h l : Addr) (ps : List Pc) : Prop := S h = some (.ins CH [("held", .ref l)]) ∧ S l = some (.lst (ps.map (Pc.d CP CS)))
/-- p is the first one of its name -/
def Frs (ps : List Pc) (i : Nat) (p : Pc) : Prop := ps[i]? = some p ∧ ∀ j q, j < i → ps[j]? = some q → q.nm ≠ p.nm
theorem HpS.ext {S S' : Sto} {CH CP CS h l : Addr} {ps : List Pc} (x : HpS S CH CP CS h l ps) (e : Ext S S') : HpS S' CH CP CS h l ps := ⟨e _ _ x.1, e _ _ x.2⟩
theorem HpS.ne {S : Sto} {CH CP CS h l : Addr} {ps : List Pc} (x : HpS S CH CP CS h l ps) : h ≠ l := fun z => by
  have := x.1
  rw [z, x.2] at this
  cases this
theorem HpS.wr {S : Sto} {CH CP CS h l a : Addr} {ps : List Pc} {d : D} (x : HpS S CH CP CS h l ps) (n1 : h ≠ a) (n2 : l ≠ a) : HpS (VS.put S a d) CH CP CS h l ps := ⟨(put_ne n1).trans x.1, (put_ne n2).trans x.2⟩
theorem HpS.set {S : Sto} {CH CP CS h l : Addr} {ps qs : List Pc} (x : HpS S CH CP CS h l ps) : HpS (VS.put S l (.lst (qs.map (Pc.d CP CS)))) CH CP CS h l qs := ⟨(put_ne x.ne).trans x.1, put_same⟩
theorem Hps.frs {ps : List Pc} (h : (ps.map Pc.nm).Nodup) {i : Nat} {p : Pc} (e : ps[i]? = some p) : Frs ps i p := by
  refine ⟨e, fun j q hj hq en => ?_⟩
  have hi : i < ps.length := (List.getElem?_eq_some_iff.mp e).1
  have e1 : (ps.map Pc.nm)[i]? = some p.nm := by rw [List.getElem?_map, e]; rfl
  have e2 : (ps.map Pc.nm)[j]? = some p.nm := by rw [List.getElem?_map, hq]; exact congrArg some en
  have hi' : i < (ps.map Pc.nm).length := by rw [List.length_map]; exact hi
  have := (List.getElem?_inj hi' h).mp (e1.trans e2.symm)
  omega
theorem Hps.app {ps : List Pc} {p : Pc} (h : Hps ps) (g : p.g) (hl : ps.length < 12) (n : p.nm ∉ ps.map Pc.nm) : Hps (ps ++ [p]) := by
  refine ⟨fun q hq => ?_, ?_, by rw [List.length_append]; show _ + 1 ≤ 12; omega⟩
  · rcases List.mem_append.mp hq with hq | hq
    · exact h.g q hq
    · rw [List.mem_singleton.mp hq]; exact g
  · rw [List.map_append, List.nodup_append]
    refine ⟨h.n, by simp, fun x hx y hy e => ?_⟩
    have hy : y = p.nm := List.mem_singleton.mp hy
    exact n (by rw [← hy, ← e]; exact hx)
theorem Hps.erase {ps : List Pc} (h : Hps ps) (i : Nat) : Hps (ps.eraseIdx i) := by
  refine ⟨fun p hp => h.g p (List.mem_of_mem_eraseIdx hp), ?_, Nat.le_trans (List.length_eraseIdx_le ..) h.l⟩
  exact h.n.sublist ((List.eraseIdx_sublist ..).map _)
theorem map_erase {α β : Type} (f : α → β) : ∀ (xs : List α) (i : Nat), (xs.eraseIdx i).map f = (xs.map f).eraseIdx i
  | [], _ => rfl
  | x :: xs, 0 => rfl
  | x :: xs, i + 1 => by
    show f x :: (xs.eraseIdx i).map f = f x :: (xs.map f).eraseIdx i
    rw [map_erase f xs i]
def p_Hp_init (CH : Addr) : Pt := fun ds S G _ => ∃ y, ds = [.ref y] ∧ S y = some (.ins CH []) ∧ ∀ l, S l = none → G .non (put (put S l (.lst [])) y (.ins CH [("held", .ref l)]))
def p_Hp_names (CH CP CS : Addr) : Pt := fun ds S G _ => ∃ h l ps, ds = [.ref h] ∧ HpS S CH CP CS h l ps ∧ ps.length ≤ 12 ∧ G (.lst ((ps.map Pc.nm).map D.str)) S
def p_Hp_place (CH CP CS : Addr) : Pt := fun ds S G _ => ∃ (h l : Addr) (ps : List Pc) (i : Nat) (p : Pc), ds = [.ref h, .str p.nm] ∧ HpS S CH CP CS h l ps ∧ ps.length ≤ 12 ∧ Frs ps i p ∧ G (.int i) S
def p_Hp_parcel (CH CP CS : Addr) : Pt := fun ds S G _ => ∃ (h l : Addr) (ps : List Pc) (i : Nat) (p : Pc), ds = [.ref h, .str p.nm] ∧ HpS S CH CP CS h l ps ∧ ps.length ≤ 12 ∧ Frs ps i p ∧ G (p.d CP CS) S
def p_Hp_out (CH CP CS : Addr) : Pt := fun ds S G _ => ∃ (h l : Addr) (ps : List Pc) (i : Nat) (p : Pc), ds = [.ref h, .str p.nm] ∧ HpS S CH CP CS h l ps ∧ ps.length ≤ 12 ∧ Frs ps i p ∧ G (p.d CP CS) (put S l (.lst ((ps.eraseIdx i).map (Pc.d CP CS))))
def p_Hp_put (CH CP CS : Addr) : Pt := fun ds S G _ => ∃ (h l : Addr) (ps : List Pc) (p : Pc), ds = [.ref h, p.d CP CS, .non] ∧ HpS S CH CP CS h l ps ∧ ps.length < 12 ∧ p.nm ∉ ps.map Pc.nm ∧ G .non (put S l (.lst ((ps ++ [p]).map (Pc.d CP CS))))
/-- a heap made, known by reference -/
theorem ve_mkHp {c : VS.Ctx} {ρ : Rho} {S : Sto} {F : D → Sto → Prop} {t : TA} {E : L2.St → XK} {CH : Addr}
    (h : VA c t ρ S fun ds S1 => ds = [] ∧ ∀ h l S2, S1 h = none → S1 l = none → Ext S1 S2 → S2 h = some (.ins CH [("held", .ref l)]) → S2 l = some (.lst []) → F (.ref h) S2) : VE c (tMakeE CH (spOf c.K (p_Hp_init CH)) [] E t) ρ S F :=
  ve_mk (dds := []) XOk.none (fun _ _ => .nil) (h.imp fun ds S1 ⟨e, q⟩ y hy => by
    subst e
    refine ⟨y, rfl, put_same, fun l hl => ⟨rfl, ?_⟩⟩
    have ne : l ≠ y := fun z => by subst z; rw [put_same] at hl; cases hl
    rw [put_ne ne] at hl
    refine q y l _ hy hl (fun a d ha => ?_) put_same ((put_ne ne).trans put_same)
    have n1 : a ≠ y := fun z => by subst z; rw [hy] at ha; cases ha
    have n2 : a ≠ l := fun z => by subst z; rw [hl] at ha; cases ha
    rw [put_ne n1, put_ne n2, put_ne n1]
    exact ha)
section
variable {P : Program} {w : World} {K : PySem.W.Frag} {mg : Str → Option Value} {base : Heap}
theorem ok_Heap___init__ {f : Addr} {fd : FuncData} {C_Sides C_Parcel C_Heap C_NoSide C_NoNames : Addr}
    (F : Fd K "__init__" "Heap.__init__" s_Heap___init__ [] f fd) (T : Tx K mg) (hsys : SysOk base)
    (k_Heap : Kl_Heap K mg C_Heap) :
    FnG P w K mg base (L2.CX P w) 1 f fd a_Heap___init__ (spOf K (p_Hp_init C_Heap)) := by
  refine VS.unbox ?_
  simp (disch := with_unfolding_all
    have kc_Heap := k_Heap.ins.cl
    have ka_Heap_held := k_Heap.a_held
    have ka_Heap_told := k_Heap.a_told
    have ka_Heap_kind := k_Heap.a_kind
    refine fn_val F sc_Heap___init__ (fun ds S G Y h => ?_) (fun cdv A hgd outer s H E hr px tk po ds S G Y h => ?_)
    · obtain ⟨y, rfl, _⟩ := h
      rfl
    · obtain ⟨y, rfl, hy, q⟩ := h
      refine ⟨_, (pss_one (ps_fld (pv 0) (pe_lst pa_nil) rfl)), ?_⟩
      (try dsimp only [cxOf, List.map])
      show VX _ _ [_] _ _
      walk_at "gr"
      refine ve_lstc ?_
      walk_at "gr"
      intro l hl
      have hy2 : VS.put S l (.lst []) y = some (.ins C_Heap []) := by rw [put_ne (ne_at hy hl)]; exact hy
      walk_at "gr"
      exact q l hl) only [↓VS.box]
theorem ok_Heap_names {f : Addr} {fd : FuncData} {C_Sides C_Parcel C_Heap C_NoSide C_NoNames : Addr} {f_Parcel_name : Addr} {g_Parcel_name : FuncData}
    (F : Fd K "names" "Heap.names" s_Heap_names [] f fd) (T : Tx K mg) (hsys : SysOk base)
    (c_Parcel_name : Mf P w K mg base 1 C_Parcel "name" "Parcel.name" s_Parcel_name [] a_Parcel_name (p_Pc_name C_Parcel C_Sides) f_Parcel_name g_Parcel_name)
    (k_Heap : Kl_Heap K mg C_Heap)
    (k_Parcel : Kl_Parcel K mg C_Parcel)
    (k_Sides : Kl_Sides K mg C_Sides) :
    FnG P w K mg base (L2.CX P w) 2 f fd a_Heap_names (spOf K (p_Hp_names C_Heap C_Parcel C_Sides)) := by
  refine VS.unbox ?_
  simp (disch := with_unfolding_all
    have kc_Heap := k_Heap.ins.cl
    have ka_Heap_held := k_Heap.a_held
    have ka_Heap_told := k_Heap.a_told
    have ka_Heap_kind := k_Heap.a_kind
    have kc_Parcel := k_Parcel.ins.cl
    have ka_Parcel_called := k_Parcel.a_called
    have ka_Parcel_outside := k_Parcel.a_outside
    have ka_Parcel_thick := k_Parcel.a_thick
    have ka_Parcel_heavy := k_Parcel.a_heavy
    have ka_Parcel_strong := k_Parcel.a_strong
    have ka_Parcel_marks := k_Parcel.a_marks
    have ka_Parcel_told := k_Parcel.a_told
    have ka_Parcel_names := k_Parcel.a_names
    have kc_Sides := k_Sides.ins.cl
    have ka_Sides_three := k_Sides.a_three
    refine fn_val F sc_Heap_names (fun ds S G Y h => ?_) (fun cdv A hgd outer s H E hr px tk po ds S G Y h => ?_)
    · obtain ⟨hh, l, ps, rfl, _⟩ := h
      rfl
    · obtain ⟨hh, l, ps, rfl, ⟨h1, h2⟩, hl, q⟩ := h
      refine ⟨_, (pss_one (ps_ret (pe_lc (own := [("parcel", 1)]) rfl sc_Heap_names.nd (pi_list (pe_fld (pv 0) rfl)) (blkOk_by (own := [("parcel", 1)]) (N := n_Heap_names) (sc := defScope s_Heap_names) (by decide +kernel)) (fun _ _ _ _ _ => (pg_name (i := 1) sc_Heap_names.nd rfl (Or.inl rfl))) (fun _ _ _ _ _ => pts_nil) (fun _ _ _ _ _ => (pe_mG0 (pv 1) c_Parcel_name.cl c_Parcel_name.me c_Parcel_name.fn hgd (hr.mono (by decide)) c_Parcel_name.b .nil VS.pass0))))), ?_⟩
      (try dsimp only [cxOf, List.map])
      show VX _ _ [_, _] _ _
      walk_at "gr"
      have ne : hh ≠ l := HpS.ne ⟨h1, h2⟩
      have h3 : (VS.del S l) hh = some (.ins C_Heap [("held", .ref l)]) := by rw [VS.del_ne ne]; exact h1
      refine ve_lcCellE (l := l) ?_ h2 (by rw [List.length_map]; omega) (fun i acc S2 => acc = ((ps.map Pc.nm).map D.str).take i ∧ S2 = VS.del S l) ⟨rfl, rfl⟩ (fun i d acc S2 hd hw _ => ?_) ?_
      · walk_at "gr"
        exact ⟨rfl, rfl⟩
      · obtain ⟨rfl, rfl⟩ := hw
        rw [List.getElem?_map] at hd
        cases e : ps[i]? with
        | none => rw [e] at hd; cases hd
        | some p =>
          rw [e] at hd
          cases hd
          walk_at "gr"
          refine ⟨p.nm, p.a, p.b, p.c, p.wl, p.wt, p.br, p.mk, rfl, ?_, rfl⟩
          rw [List.take_succ]
          congr 1
          rw [List.getElem?_map, List.getElem?_map, e]
          rfl
      · rintro acc S2 ⟨rfl, rfl⟩ _
        rw [put_back h2]
        rw [List.take_of_length_le (by simp)]
        exact q) only [↓VS.box]
theorem ok_Heap_place_of {f : Addr} {fd : FuncData} {C_Sides C_Parcel C_Heap C_NoSide C_NoNames : Addr} {f_Parcel_name : Addr} {g_Parcel_name : FuncData}
    (F : Fd K "place_of" "Heap.place_of" s_Heap_place_of [] f fd) (T : Tx K mg) (hsys : SysOk base)
    (c_Parcel_name : Mf P w K mg base 1 C_Parcel "name" "Parcel.name" s_Parcel_name [] a_Parcel_name (p_Pc_name C_Parcel C_Sides) f_Parcel_name g_Parcel_name)
    (k_Heap : Kl_Heap K mg C_Heap)
    (k_Parcel : Kl_Parcel K mg C_Parcel)
    (k_Sides : Kl_Sides K mg C_Sides) :
    FnG P w K mg base (L2.CX P w) 2 f fd a_Heap_place_of (spOf K (p_Hp_place C_Heap C_Parcel C_Sides)) := by
  refine VS.unbox ?_
  simp (disch := with_unfolding_all
    have kc_Heap := k_Heap.ins.cl
    have ka_Heap_held := k_Heap.a_held
    have ka_Heap_told := k_Heap.a_told
    have ka_Heap_kind := k_Heap.a_kind
    have kc_Parcel := k_Parcel.ins.cl
    have ka_Parcel_called := k_Parcel.a_called
    have ka_Parcel_outside := k_Parcel.a_outside
    have ka_Parcel_thick := k_Parcel.a_thick
    have ka_Parcel_heavy := k_Parcel.a_heavy
    have ka_Parcel_strong := k_Parcel.a_strong
    have ka_Parcel_marks := k_Parcel.a_marks
    have ka_Parcel_told := k_Parcel.a_told
    have ka_Parcel_names := k_Parcel.a_names
    have kc_Sides := k_Sides.ins.cl
    have ka_Sides_three := k_Sides.a_three
    refine fn_val F sc_Heap_place_of (fun ds S G Y h => ?_) (fun cdv A hgd outer s H E hr px tk po ds S G Y h => ?_)
    · obtain ⟨hh, l, ps, i, p, rfl, _⟩ := h
      rfl
    · obtain ⟨hh, l, ps, i, p, rfl, ⟨h1, h2⟩, hl, ⟨hi, hf⟩, q⟩ := h
      refine ⟨_, (pss_cons (ps_for po rfl (pi_enum (by rfl) T.b_enumerate (pa_cons (pe_fld (pv 0) rfl) pa_nil)) (pg_tup (n := 2) rfl (pgs_cons (pg_name (i := 2) sc_Heap_place_of.nd rfl (Or.inl rfl)) (pgs_cons (pg_name (i := 3) sc_Heap_place_of.nd rfl (Or.inl rfl)) pgs_nil)))
        (pss_one (ps_if (PW.pt (pw_and (pt_val (pe_callB c_isiZ (by rfl) T.b_isinstance (by decide +kernel) (pa_cons (pv 1) (pa_cons (pe_bltn (v := .ty "str") (by rfl) T.b_str (by decide +kernel) rfl) pa_nil)))) (pw_and1 (pt_cmpR op_eq (pe_mG0 (pv 3) c_Parcel_name.cl c_Parcel_name.me c_Parcel_name.fn hgd (hr.mono (by decide)) c_Parcel_name.b .nil VS.pass0) (pv 1) (nomark _))))) (pss_one (ps_ret (pv 2)))
        pss_nil)))
        (pss_one ps_nev)), ?_⟩
      (try dsimp only [cxOf, List.map])
      show VX _ _ [_, _, _, _] _ _
      walk_at "gr"
      have ne : hh ≠ l := HpS.ne ⟨h1, h2⟩
      have h3 : (VS.del S l) hh = some (.ins C_Heap [("held", .ref l)]) := by rw [VS.del_ne ne]; exact h1
      refine vx_forCellE h2 ?_ (fun k ρ2 S2 => k ≤ i ∧ S2 = VS.del S l ∧ ∃ x2 x3, ρ2 = [some (.ref hh), some (.str p.nm), x2, x3]) ⟨Nat.zero_le _, rfl, _, _, rfl⟩ (fun k d ρ2 S2 hd hw => ?_) (fun ρ2 S2 hw => ?_)
      · walk_at "gr"
        exact ⟨rfl, rfl⟩
      · obtain ⟨hk, rfl, x2, x3, rfl⟩ := hw
        rw [List.getElem?_map] at hd
        cases e : ps[k]? with
        | none => rw [e] at hd; cases hd
        | some r =>
          rw [e] at hd
          cases hd
          walk_at "gr"
          refine ⟨r.nm, r.a, r.b, r.c, r.wl, r.wt, r.br, r.mk, rfl, ?_⟩
          walk_at "gr"
          refine VS.br (fun en => ?_) (fun en => ?_)
          · walk_at "gr"
            have : k = i := by
              have n : ¬ k < i := fun z => hf k r z e en
              omega
            subst this
            rw [put_back h2]
            exact q
          · walk_at "gr"
            refine ⟨?_, rfl, _, _, rfl⟩
            have : k ≠ i := fun z => by
              subst z
              rw [hi] at e
              cases e
              exact en rfl
            omega
      · obtain ⟨hk, rfl, x2, x3, rfl⟩ := hw
        rw [List.length_map] at hk
        have := (List.getElem?_eq_some_iff.mp hi).1
        omega) only [↓VS.box]
theorem ok_Heap_parcel {f : Addr} {fd : FuncData} {C_Sides C_Parcel C_Heap C_NoSide C_NoNames : Addr} {f_Heap_place_of : Addr} {g_Heap_place_of : FuncData}
    (F : Fd K "parcel" "Heap.parcel" s_Heap_parcel [] f fd) (T : Tx K mg) (hsys : SysOk base)
    (c_Heap_place_of : Mf P w K mg base 2 C_Heap "place_of" "Heap.place_of" s_Heap_place_of [] a_Heap_place_of (p_Hp_place C_Heap C_Parcel C_Sides) f_Heap_place_of g_Heap_place_of)
    (k_Heap : Kl_Heap K mg C_Heap)
    (k_Parcel : Kl_Parcel K mg C_Parcel)
    (k_Sides : Kl_Sides K mg C_Sides) :
    FnG P w K mg base (L2.CX P w) 3 f fd a_Heap_parcel (spOf K (p_Hp_parcel C_Heap C_Parcel C_Sides)) := by
  refine VS.unbox ?_
  simp (disch := with_unfolding_all
    have kc_Heap := k_Heap.ins.cl
    have ka_Heap_held := k_Heap.a_held
    have ka_Heap_told := k_Heap.a_told
    have ka_Heap_kind := k_Heap.a_kind
    have kc_Parcel := k_Parcel.ins.cl
    have ka_Parcel_called := k_Parcel.a_called
    have ka_Parcel_outside := k_Parcel.a_outside
    have ka_Parcel_thick := k_Parcel.a_thick
    have ka_Parcel_heavy := k_Parcel.a_heavy
    have ka_Parcel_strong := k_Parcel.a_strong
    have ka_Parcel_marks := k_Parcel.a_marks
    have ka_Parcel_told := k_Parcel.a_told
    have ka_Parcel_names := k_Parcel.a_names
    have kc_Sides := k_Sides.ins.cl
    have ka_Sides_three := k_Sides.a_three
    refine fn_val F sc_Heap_parcel (fun ds S G Y h => ?_) (fun cdv A hgd outer s H E hr px tk po ds S G Y h => ?_)
    · obtain ⟨hh, l, ps, i, p, rfl, _⟩ := h
      rfl
    · obtain ⟨hh, l, ps, i, p, rfl, ⟨h1, h2⟩, hl, hf, q⟩ := h
      refine ⟨_, (pss_one (ps_ret (pe_ix ix_list (pe_fld (pv 0) rfl) (pe_mG (pv 0) c_Heap_place_of.cl c_Heap_place_of.me c_Heap_place_of.fn hgd (hr.mono (by decide)) c_Heap_place_of.b .nil VS.pass0 (pa_cons (pv 1) pa_nil)) (fun _ _ => rfl)))), ?_⟩
      (try dsimp only [cxOf, List.map])
      show VX _ _ [_, _] _ _
      walk_at "gr"
      refine ⟨hh, l, ps, i, p, rfl, ⟨h1, h2⟩, hl, hf, ?_⟩
      refine rv_ixL (.c h2) (atI_nat (j := i) (by rw [List.getElem?_map, hf.1]; rfl)) ?_
      exact q) only [↓VS.box]
theorem ok_Heap_out {f : Addr} {fd : FuncData} {C_Sides C_Parcel C_Heap C_NoSide C_NoNames : Addr} {f_Heap_place_of : Addr} {g_Heap_place_of : FuncData}
    (F : Fd K "out" "Heap.out" s_Heap_out [] f fd) (T : Tx K mg) (hsys : SysOk base)
    (c_Heap_place_of : Mf P w K mg base 2 C_Heap "place_of" "Heap.place_of" s_Heap_place_of [] a_Heap_place_of (p_Hp_place C_Heap C_Parcel C_Sides) f_Heap_place_of g_Heap_place_of)
    (k_Heap : Kl_Heap K mg C_Heap)
    (k_Parcel : Kl_Parcel K mg C_Parcel)
    (k_Sides : Kl_Sides K mg C_Sides) :
    FnG P w K mg base (L2.CX P w) 3 f fd a_Heap_out (spOf K (p_Hp_out C_Heap C_Parcel C_Sides)) := by
  refine VS.unbox ?_
  simp (disch := with_unfolding_all
    have kc_Heap := k_Heap.ins.cl
    have ka_Heap_held := k_Heap.a_held
    have ka_Heap_told := k_Heap.a_told
    have ka_Heap_kind := k_Heap.a_kind
    have kc_Parcel := k_Parcel.ins.cl
    have ka_Parcel_called := k_Parcel.a_called
    have ka_Parcel_outside := k_Parcel.a_outside
    have ka_Parcel_thick := k_Parcel.a_thick
    have ka_Parcel_heavy := k_Parcel.a_heavy
    have ka_Parcel_strong := k_Parcel.a_strong
    have ka_Parcel_marks := k_Parcel.a_marks
    have ka_Parcel_told := k_Parcel.a_told
    have ka_Parcel_names := k_Parcel.a_names
    have kc_Sides := k_Sides.ins.cl
    have ka_Sides_three := k_Sides.a_three
    refine fn_val F sc_Heap_out (fun ds S G Y h => ?_) (fun cdv A hgd outer s H E hr px tk po ds S G Y h => ?_)
    · obtain ⟨hh, l, ps, i, p, rfl, _⟩ := h
      rfl
    · obtain ⟨hh, l, ps, i, p, rfl, ⟨h1, h2⟩, hl, hf, q⟩ := h
      refine ⟨_, (pss_one (ps_ret (pe_bm PySem.F.plainAttrs_list PySem.F.slot_list_pop PySem.F.type_list_pop mt_popAt (pe_fld (pv 0) rfl) (pa_cons (pe_mG (pv 0) c_Heap_place_of.cl c_Heap_place_of.me c_Heap_place_of.fn hgd (hr.mono (by decide)) c_Heap_place_of.b .nil VS.pass0 (pa_cons (pv 1) pa_nil)) pa_nil)))), ?_⟩
      (try dsimp only [cxOf, List.map])
      show VX _ _ [_, _] _ _
      walk_at "gr"
      refine ⟨hh, l, ps, i, p, rfl, ⟨h1, h2⟩, hl, hf, ?_⟩
      have hi : i < ps.length := (List.getElem?_eq_some_iff.mp hf.1).1
      walk_at "gr"
      exact rm_popAt (j := i) h2 rfl (by omega) (by rw [List.getElem?_map, hf.1]; rfl) (by rw [← map_erase]; exact q)) only [↓VS.box]
end
end LW
namespace LW
open PySem L2 C8 PySem.Spec PyProof.Rows VS
/-! ### names of a heap's parcels; heights -/
/-- a list or a tuple of texts -/
structure SqD (d : D) (zs : List Str) : Prop where
  p : isP d = true
  t : isLT d = true
  r : rowsOf d = zs.map D.str
theorem SqD.lst (zs : List Str) : SqD (.lst (zs.map D.str)) zs := ⟨isP_strs zs, rfl, rfl⟩
theorem SqD.tup (zs : List Str) : SqD (.tup (zs.map D.str)) zs := ⟨isP_strsT zs, rfl, rfl⟩
theorem SqD.q {S : Sto} {d : D} {zs : List Str} (h : SqD d zs) : IsQ S d (zs.map D.str) := by rw [← h.r]; exact (Da.v h.p).isQ h.t
theorem SqD.s {d : D} {zs : List Str} (h : SqD d zs) : IsS d (zs.map D.str) := by rw [← h.r]; exact isS_of h.t
theorem nodup_len {α : Type} [DecidableEq α] : ∀ (xs ys : List α), xs.Nodup → (∀ x ∈ xs, x ∈ ys) → xs.length ≤ ys.length
  | [], _, _, _ => Nat.zero_le _
  | x :: xs, ys, hn, hs => by
    rw [List.nodup_cons] at hn
    have hx := hs x (List.mem_cons_self ..)
    have ih := nodup_len xs (ys.erase x) hn.2 fun z hz => (List.mem_erase_of_ne (fun e => hn.1 (by subst e; exact hz))).mpr (hs z (List.mem_cons_of_mem _ hz))
    rw [List.length_erase_of_mem hx] at ih
    have := List.length_pos_of_mem hx
    rw [List.length_cons]
    omega
/-- some of a heap's parcels, none twice -/
structure Some_ (ps qs : List Pc) : Prop where
  m : ∀ q ∈ qs, q ∈ ps
  n : (qs.map Pc.nm).Nodup
theorem Some_.len {ps qs : List Pc} (h : Some_ ps qs) (hp : ps.length ≤ 12) : qs.length ≤ 12 := by
  have : (qs.map Pc.nm).length ≤ (ps.map Pc.nm).length := nodup_len _ _ h.n fun z hz => by
    obtain ⟨q, hq, rfl⟩ := List.mem_map.mp hz
    exact List.mem_map.mpr ⟨q, h.m q hq, rfl⟩
  rw [List.length_map, List.length_map] at this
  omega
def Pc.lo (p : Pc) : Int := if ("upright" : Str) ∈ p.mk then p.c else min (min p.a p.b) p.c
def Pc.hi (p : Pc) : Int := if ("upright" : Str) ∈ p.mk then p.c else max (max p.a p.b) p.c
def p_heights (CH CP CS : Addr) : Pt := fun ds S G _ => ∃ (h l : Addr) (ps qs : List Pc) (d : D), ds = [.ref h, d] ∧ HpS S CH CP CS h l ps ∧ Hps ps ∧ SqD d (qs.map Pc.nm) ∧ Some_ ps qs ∧ ∀ S', Ext S S' → G (.tup [.int (qs.map Pc.lo).sum, .int (qs.map Pc.hi).sum]) S'
end LW
namespace LW
open PySem L2 C8 PySem.Spec PyProof.Rows VS
/-! ### the first fault of a stack -/
def tpB (p : Pc) : Bool := decide (("top" : Str) ∈ p.mk)
def wts (ps : List Pc) : Int := (ps.map Pc.wt).sum
def fltD : List Pc → D
  | [] => .non
  | p :: ps => if tpB p = true ∧ ps ≠ [] then .tup [.str "top", .str p.nm] else if p.br < wts ps then .tup [.str "bears", .str p.nm, .int (wts ps)] else fltD ps
def p_is_top (CP CS : Addr) : Pt := fun ds S G _ => ∃ p : Pc, ds = [p.d CP CS] ∧ ∀ S', Ext S S' → G (.bl (tpB p)) S'
def p_fault_of (CP CS : Addr) : Pt := fun ds S G _ => ∃ ps : List Pc, ds = [.lst (ps.map (Pc.d CP CS))] ∧ (∀ p ∈ ps, p.g) ∧ ps.length ≤ 12 ∧ ∀ S', Ext S S' → G (fltD ps) S'
def p_stack_fault (CH CP CS : Addr) : Pt := fun ds S G _ => ∃ (h l : Addr) (ps qs : List Pc) (d : D), ds = [.ref h, d] ∧ HpS S CH CP CS h l ps ∧ Hps ps ∧ SqD d (qs.map Pc.nm) ∧ Some_ ps qs ∧ ∀ S', Ext S S' → G (fltD qs) S'
def wtD : D → D
  | .ins _ [_, _, _, (_, w), _, _] => w
  | d => d
theorem wtD_map (CP CS : Addr) (ps : List Pc) : (ps.map (Pc.d CP CS)).map wtD = (ps.map Pc.wt).map D.int := by
  rw [List.map_map, List.map_map]
  exact List.map_congr_left fun p _ => rfl
theorem wts_b {ps : List Pc} (h : ∀ p ∈ ps, 0 ≤ p.wt ∧ p.wt ≤ 100000) : 0 ≤ wts ps ∧ wts ps ≤ 100000 * (ps.length : Int) := by
  induction ps with
  | nil => exact ⟨Int.le_refl _, Int.le_refl _⟩
  | cons y ys ih =>
    have h1 := h y (List.mem_cons_self ..)
    have h2 := ih fun q hq => h q (List.mem_cons_of_mem _ hq)
    unfold wts at h2 ⊢
    rw [List.map_cons, List.sum_cons, List.length_cons]
    constructor <;> omega
section
variable {P : Program} {w : World} {K : PySem.W.Frag} {mg : Str → Option Value} {base : Heap}
theorem ok_is_top {f : Addr} {fd : FuncData} {C_Sides C_Parcel C_Heap C_NoSide C_NoNames : Addr} {f_Parcel_labels : Addr} {g_Parcel_labels : FuncData}
    (F : Fd K "is_top" "is_top" s_is_top [] f fd) (T : Tx K mg) (hsys : SysOk base)
    (c_Parcel_labels : Mf P w K mg base 1 C_Parcel "labels" "Parcel.labels" s_Parcel_labels [] a_Parcel_labels (p_Pc_labels C_Parcel C_Sides) f_Parcel_labels g_Parcel_labels)
    (k_Parcel : Kl_Parcel K mg C_Parcel)
    (k_Sides : Kl_Sides K mg C_Sides) :
    FnG P w K mg base (L2.CX P w) 2 f fd a_is_top (spOf K (p_is_top C_Parcel C_Sides)) := by
  refine VS.unbox ?_
  simp (disch := with_unfolding_all
    have kc_Parcel := k_Parcel.ins.cl
    have ka_Parcel_called := k_Parcel.a_called
    have ka_Parcel_outside := k_Parcel.a_outside
    have ka_Parcel_thick := k_Parcel.a_thick
    have ka_Parcel_heavy := k_Parcel.a_heavy
    have ka_Parcel_strong := k_Parcel.a_strong
    have ka_Parcel_marks := k_Parcel.a_marks
    have ka_Parcel_told := k_Parcel.a_told
    have ka_Parcel_names := k_Parcel.a_names
    have kc_Sides := k_Sides.ins.cl
    have ka_Sides_three := k_Sides.a_three
    refine fn_val F sc_is_top (fun ds S G Y h => ?_) (fun cdv A hgd outer s H E hr px tk po ds S G Y h => ?_)
    · obtain ⟨p, rfl, _⟩ := h
      rfl
    · obtain ⟨p, rfl, q⟩ := h
      refine ⟨_, (pss_one (ps_ret (pe_cmpR op_in_seq pe_str (pe_mG0 (pv 0) c_Parcel_labels.cl c_Parcel_labels.me c_Parcel_labels.fn hgd (hr.mono (by decide)) c_Parcel_labels.b .nil VS.pass0) (by rfl)))), ?_⟩
      (try dsimp only [cxOf, List.map])
      show VX _ _ [_] _ _
      walk_at "gr"
      refine ⟨p.nm, p.a, p.b, p.c, p.wl, p.wt, p.br, p.mk, rfl, fun l2 hl2 => ?_⟩
      have x3 : Ext S (put S l2 (.lst (p.mk.map D.str))) := Ext.put hl2
      have c3 : (put S l2 (.lst (p.mk.map D.str))) l2 = some (.lst (p.mk.map D.str)) := put_same
      generalize put S l2 (.lst (p.mk.map D.str)) = S3 at x3 c3 ⊢
      refine rv_in (.l (.c c3)) rfl (flat_strs _) ?_
      rw [inD_strs]
      exact q S3 x3) only [↓VS.box]
theorem ok_fault_of {f : Addr} {fd : FuncData} {C_Sides C_Parcel C_Heap C_NoSide C_NoNames : Addr} {f_Parcel_weight f_Parcel_bears f_Parcel_name f_is_top : Addr} {g_Parcel_weight g_Parcel_bears g_Parcel_name g_is_top : FuncData}
    (F : Fd K "fault_of" "fault_of" s_fault_of [] f fd) (T : Tx K mg) (hsys : SysOk base)
    (c_Parcel_weight : Mf P w K mg base 1 C_Parcel "weight" "Parcel.weight" s_Parcel_weight [] a_Parcel_weight (p_Pc_weight C_Parcel C_Sides) f_Parcel_weight g_Parcel_weight)
    (c_Parcel_bears : Mf P w K mg base 1 C_Parcel "bears" "Parcel.bears" s_Parcel_bears [] a_Parcel_bears (p_Pc_bears C_Parcel C_Sides) f_Parcel_bears g_Parcel_bears)
    (c_Parcel_name : Mf P w K mg base 1 C_Parcel "name" "Parcel.name" s_Parcel_name [] a_Parcel_name (p_Pc_name C_Parcel C_Sides) f_Parcel_name g_Parcel_name)
    (c_is_top : Cf P w K mg base (L2.CX P w) 2 "is_top" s_is_top [] a_is_top (p_is_top C_Parcel C_Sides) f_is_top g_is_top)
    (k_Parcel : Kl_Parcel K mg C_Parcel)
    (k_Sides : Kl_Sides K mg C_Sides) :
    FnG P w K mg base (L2.CX P w) 3 f fd a_fault_of (spOf K (p_fault_of C_Parcel C_Sides)) := by
  refine VS.unbox ?_
  simp (disch := with_unfolding_all
    have kc_Parcel := k_Parcel.ins.cl
    have ka_Parcel_called := k_Parcel.a_called
    have ka_Parcel_outside := k_Parcel.a_outside
    have ka_Parcel_thick := k_Parcel.a_thick
    have ka_Parcel_heavy := k_Parcel.a_heavy
    have ka_Parcel_strong := k_Parcel.a_strong
    have ka_Parcel_marks := k_Parcel.a_marks
    have ka_Parcel_told := k_Parcel.a_told
    have ka_Parcel_names := k_Parcel.a_names
    have kc_Sides := k_Sides.ins.cl
    have ka_Sides_three := k_Sides.a_three
    refine fn_val F sc_fault_of (fun ds S G Y h => ?_) (fun cdv A hgd outer s H E hr px tk po ds S G Y h => ?_)
    · obtain ⟨ps, rfl, _⟩ := h
      rfl
    · obtain ⟨ps, rfl, hg, hl, q⟩ := h
      refine ⟨_, (pss_cons (ps_set (i := 1) sc_fault_of.nd rfl (Or.inl rfl) (pe_callB (cr_sum rfl) (by rfl) T.b_sum (by decide +kernel) (pa_cons (pe_lc (own := [("parcel", 3)]) rfl sc_fault_of.nd (pi_list (pv 0)) (blkOk_by (own := [("parcel", 3)]) (N := n_fault_of) (sc := defScope s_fault_of) (by decide +kernel)) (fun _ _ _ _ _ => (pg_name (i := 3) sc_fault_of.nd rfl (Or.inl rfl))) (fun _ _ _ _ _ => pts_nil) (fun _ _ _ _ _ => (pe_mG0 (pv 3) c_Parcel_weight.cl c_Parcel_weight.me c_Parcel_weight.fn hgd (hr.mono (by decide)) c_Parcel_weight.b .nil VS.pass0))) pa_nil)))
        (pss_cons (ps_for po rfl (pi_enum (by rfl) T.b_enumerate (pa_cons (pv 0) pa_nil)) (pg_tup (n := 2) rfl (pgs_cons (pg_name (i := 2) sc_fault_of.nd rfl (Or.inl rfl)) (pgs_cons (pg_name (i := 3) sc_fault_of.nd rfl (Or.inl rfl)) pgs_nil)))
        (pss_cons (ps_aug (i := 1) sc_fault_of.nd rfl (.inl rfl) (pe_mG0 (pv 3) c_Parcel_weight.cl c_Parcel_weight.me c_Parcel_weight.fn hgd (hr.mono (by decide)) c_Parcel_weight.b .nil VS.pass0) ip_sub)
        (pss_cons (ps_if (PW.pt (pw_and (pt_val (pe_cG c_is_top.fn hgd (hr.mono (by decide)) (by rfl) c_is_top.mg c_is_top.kp c_is_top.b .nil VS.pass0 (pa_cons (pv 3) pa_nil))) (pw_and1 (pt_cmpR op_lt (pv 2) (pe_op op_sub (pe_callB c_len (by rfl) T.b_len (by decide +kernel) (pa_cons (pv 0) pa_nil)) pe_int) (nomark _))))) (pss_one (ps_ret (pe_tup (pa_cons pe_str (pa_cons (pe_mG0 (pv 3) c_Parcel_name.cl c_Parcel_name.me c_Parcel_name.fn hgd (hr.mono (by decide)) c_Parcel_name.b .nil VS.pass0) pa_nil)))))
        pss_nil)
        (pss_one (ps_if (pt_cmpR op_gt (pv 1) (pe_mG0 (pv 3) c_Parcel_bears.cl c_Parcel_bears.me c_Parcel_bears.fn hgd (hr.mono (by decide)) c_Parcel_bears.b .nil VS.pass0) (nomark _)) (pss_one (ps_ret (pe_tup (pa_cons pe_str (pa_cons (pe_mG0 (pv 3) c_Parcel_name.cl c_Parcel_name.me c_Parcel_name.fn hgd (hr.mono (by decide)) c_Parcel_name.b .nil VS.pass0) (pa_cons (pv 1) pa_nil))))))
        pss_nil)))))
        (pss_one (ps_ret pe_non)))), ?_⟩
      (try dsimp only [cxOf, List.map])
      show VX _ _ [_, _, _, _] _ _
      walk_at "gr"
      refine ve_lcM wtD (vi_list ?_)
      walk_at "gr"
      refine ⟨_, .v, by rw [List.length_map]; omega, fun d hd => ?_, ?_⟩
      · obtain ⟨p, hp, rfl⟩ := List.mem_map.mp hd
        walk_at "gr"
        refine ⟨rfl, ?_⟩
        walk_at "gr"
        refine ⟨p.nm, p.a, p.b, p.c, p.wl, p.wt, p.br, p.mk, rfl, ?_⟩
        exact ⟨rfl, rfl⟩
      rw [wtD_map]
      walk_at "gr"
      refine rc_sum (.v) ?_
      walk_at "gr"
      refine vx_for (vi_enum ?_)
      walk_at "gr"
      refine ⟨_, _, rfl, .v, fun i ρ2 S2 => Ext S S2 ∧ ∃ x2 x3, ρ2 = [some (.lst (ps.map (Pc.d C_Parcel C_Sides))), some (.int (wts (ps.drop i))), x2, x3] ∧ fltD (ps.drop i) = fltD ps, ⟨.refl, _, _, rfl, rfl⟩, ?_, ?_⟩
      · rintro i d ρ2 S2 hd ⟨x, x2, x3, rfl, ef⟩
        obtain ⟨d', hd', rfl⟩ := enumD_get hd
        rw [List.getElem?_map] at hd'
        cases e : ps[i]? with
        | none => rw [e] at hd'; cases hd'
        | some p =>
          rw [e] at hd'
          cases hd'
          have hi : i < ps.length := (List.getElem?_eq_some_iff.mp e).1
          have dl : ps.drop i = p :: ps.drop (i + 1) := by
            rw [List.drop_eq_getElem_cons hi]
            rw [List.getElem?_eq_getElem hi] at e
            cases e
            rfl
          have gp := hg p (List.mem_of_getElem? e)
          have gw := gp.wt
          have hb := wts_b (ps := ps.drop (i + 1)) fun r hr => (hg r (List.mem_of_mem_drop hr)).wt
          have hlen : (ps.drop (i + 1)).length = ps.length - (i + 1) := List.length_drop
          rw [dl] at ef
          have ew : wts (ps.drop i) - p.wt = wts (ps.drop (i + 1)) := by
            rw [dl]
            unfold wts
            rw [List.map_cons, List.sum_cons]
            omega
          walk_at "gr"
          refine vx_augI rfl ?_
          walk_at "gr"
          refine ⟨p.nm, p.a, p.b, p.c, p.wl, p.wt, p.br, p.mk, rfl, ?_⟩
          refine ⟨p.wt, rfl, ?_⟩
          rw [ew]
          walk_at "gr"
          refine ⟨p, rfl, fun S3 x3 => ?_⟩
          have x4 := x.trans x3
          walk_at "gr"
          refine ⟨fun et => ?_, fun et => ?_⟩
          · walk_at "gr"
            refine VS.br (fun zl => ?_) (fun zl => ?_)
            · walk_at "gr"
              refine ⟨p.nm, p.a, p.b, p.c, p.wl, p.wt, p.br, p.mk, rfl, ?_⟩
              walk_at "gr"
              rw [List.length_map] at zl
              have := q S3 x4
              rw [← ef] at this
              unfold fltD at this
              rw [if_pos ⟨et, fun en => by rw [en] at hlen; have := hlen; rw [List.length_nil] at this; omega⟩] at this
              exact this
            · rw [List.length_map] at zl
              have nn : ¬ (tpB p = true ∧ ps.drop (i + 1) ≠ []) := fun h => h.2 (List.length_eq_zero_iff.mp (by rw [hlen]; omega))
              walk_at "gr"
              refine ⟨p.nm, p.a, p.b, p.c, p.wl, p.wt, p.br, p.mk, rfl, ?_⟩
              walk_at "gr"
              refine VS.br (fun z => ?_) (fun z => ?_)
              · walk_at "gr"
                refine ⟨p.nm, p.a, p.b, p.c, p.wl, p.wt, p.br, p.mk, rfl, ?_⟩
                walk_at "gr"
                have := q S3 x4
                rw [← ef] at this
                unfold fltD at this
                rw [if_neg nn, if_pos z] at this
                exact this
              · walk_at "gr"
                refine ⟨x4, _, _, rfl, ?_⟩
                rw [← ef]
                conv => rhs; unfold fltD
                rw [if_neg nn, if_neg z]
          · have nn : ¬ (tpB p = true ∧ ps.drop (i + 1) ≠ []) := fun h => by rw [et] at h; exact absurd h.1 (by decide)
            walk_at "gr"
            refine ⟨p.nm, p.a, p.b, p.c, p.wl, p.wt, p.br, p.mk, rfl, ?_⟩
            walk_at "gr"
            refine VS.br (fun z => ?_) (fun z => ?_)
            · walk_at "gr"
              refine ⟨p.nm, p.a, p.b, p.c, p.wl, p.wt, p.br, p.mk, rfl, ?_⟩
              walk_at "gr"
              have := q S3 x4
              rw [← ef] at this
              unfold fltD at this
              rw [if_neg nn, if_pos z] at this
              exact this
            · walk_at "gr"
              refine ⟨x4, _, _, rfl, ?_⟩
              rw [← ef]
              conv => rhs; unfold fltD
              rw [if_neg nn, if_neg z]
      · rintro ρ2 S2 ⟨x, x2, x3, rfl, ef⟩
        have el : (enumD (ps.map (Pc.d C_Parcel C_Sides))).length = ps.length := by rw [enumD_len, List.length_map]
        rw [el, List.drop_length] at ef
        walk_at "gr"
        have := q S2 x
        rw [← ef] at this
        exact this) only [↓VS.box]
end
end LW
namespace LW
open PySem L2 C8 PySem.Spec PyProof.Rows VS
/-! ### things in any order -/
def p__law_shuffled : Pt := fun ds S G _ => ∃ (p : Addr) (n : Int) (y : D) (zs : List D), ds = [.ref p, y] ∧ IsL S y zs ∧ Pu S p n ∧ n < 500000 ∧ zs.length ≤ 100 ∧ ∀ (ws : List D) (S' : Sto), ws.Perm zs → Pu S' p (n + 100) → Ex1 p S S' → G (.lst ws) S'
theorem erase_perm {α : Type} : ∀ {xs : List α} {k : Nat} (hk : k < xs.length), xs.Perm (xs[k] :: xs.eraseIdx k)
  | [], k, hk => absurd hk (Nat.not_lt_zero _)
  | x :: xs, 0, _ => .refl _
  | x :: xs, k + 1, hk => by
    have hk' : k < xs.length := Nat.lt_of_succ_lt_succ hk
    show (x :: xs).Perm (xs[k] :: x :: xs.eraseIdx k)
    exact ((erase_perm hk').cons x).trans (.swap ..)
end LW
namespace LW
open PySem L2 C8 PySem.Spec PyProof.Rows VS
/-! ### things in any order: by value, or the new list by reference -/
def shufR : Pt := fun ds S G _ => ∃ (p : Addr) (n : Int) (y : D) (zs : List D), ds = [.ref p, y] ∧ IsL S y zs ∧ Pu S p n ∧ n < 500000 ∧ zs.length ≤ 100 ∧ ∀ (a : Addr) (ws : List D) (S' : Sto), ws.Perm zs → S a = none → p ≠ a → S' a = some (.lst ws) → Pu S' p (n + 100) → Ex1 p S S' → G (.ref a) S'
def p_shuf40 : Pt := fun ds S G Y => p__law_shuffled ds S G Y ∨ shufR ds S G Y
section
variable {P : Program} {w : World} {K : PySem.W.Frag} {mg : Str → Option Value} {base : Heap}
theorem ok__law_shuffled {f : Addr} {fd : FuncData} {C_Sides C_Parcel C_Heap C_NoSide C_NoNames : Addr} {f__law_take : Addr} {g__law_take : FuncData}
    (F : Fd K "_law_shuffled" "_law_shuffled" s__law_shuffled [] f fd) (T : Tx K mg) (hsys : SysOk base)
    (c__law_take : Cf P w K mg base (L2.CX P w) 1 "_law_take" s__law_take [] a__law_take p__law_take f__law_take g__law_take) :
    FnG P w K mg base (L2.CX P w) 2 f fd a__law_shuffled (spOf K p_shuf40) := by
  refine VS.unbox ?_
  simp (disch := with_unfolding_all
    refine fn_val F sc__law_shuffled (fun ds S G Y h => ?_) (fun cdv A hgd outer s H E hr px tk po ds S G Y h => ?_)
    · rcases h with ⟨p, n, y, zs, rfl, _⟩ | ⟨p, n, y, zs, rfl, _⟩ <;> rfl
    · obtain ⟨p, n, y, zs, rfl, hy, hp, hn, hl, q⟩ : ∃ (p : Addr) (n : Int) (y : D) (zs : List D), ds = [.ref p, y] ∧ IsL S y zs ∧ Pu S p n ∧ n < 500000 ∧ zs.length ≤ 100 ∧ ((∀ (ws : List D) (S' : Sto), ws.Perm zs → Pu S' p (n + 100) → Ex1 p S S' → G (.lst ws) S') ∨ ∀ (a : Addr) (ws : List D) (S' : Sto), ws.Perm zs → S a = none → p ≠ a → S' a = some (.lst ws) → Pu S' p (n + 100) → Ex1 p S S' → G (.ref a) S') := by
        rcases h with ⟨p, n, y, zs, e, a, b, c, d, q⟩ | ⟨p, n, y, zs, e, a, b, c, d, q⟩
        · exact ⟨p, n, y, zs, e, a, b, c, d, .inl q⟩
        · exact ⟨p, n, y, zs, e, a, b, c, d, .inr q⟩
      refine ⟨_, (pss_cons (ps_par (i := 2) (j := 3) (by rfl) sc__law_shuffled.nd rfl rfl (by decide) rfl rfl (pa_cons (pe_callTy c_list (by rfl) T.b_list (by decide +kernel) (pa_cons (pv 1) pa_nil)) (pa_cons (pe_lst pa_nil) pa_nil)) (by rfl))
        (pss_cons (ps_while po (pt_cmpR (op_neE hr) (pv 2) (pe_lst pa_nil) (nomark _)) (pss_one (ps_expr (pe_bm PySem.F.plainAttrs_list PySem.F.slot_list_append PySem.F.type_list_append mt_append (pv 3) (pa_cons (pe_bm PySem.F.plainAttrs_list PySem.F.slot_list_pop PySem.F.type_list_pop mt_popAt (pv 2) (pa_cons (pe_cG c__law_take.fn hgd (hr.mono (by decide)) (by rfl) c__law_take.mg c__law_take.kp c__law_take.b .nil VS.pass0 (pa_cons (pv 0) (pa_cons (pe_callB c_len (by rfl) T.b_len (by decide +kernel) (pa_cons (pv 2) pa_nil)) pa_nil))) pa_nil)) pa_nil)))))
        (pss_one (ps_ret (pv 3))))), ?_⟩
      (try dsimp only [cxOf, List.map])
      show VX _ _ [_, _, _, _] _ _
      walk_at "gr"
      refine rc_listc (.l hy) fun l0 hl0 => ?_
      walk_at "gr"
      refine ve_lstc ?_
      walk_at "gr"
      intro f0 hf0
      have npl := hp.ne hl0
      have h1 : Pu (put S l0 (.lst zs)) p n := hp.put hl0
      have npf := h1.ne hf0
      have nlf : l0 ≠ f0 := fun z => by subst z; rw [put_same] at hf0; cases hf0
      have h2 : Pu (put (put S l0 (.lst zs)) f0 (.lst [])) p n := h1.put hf0
      have cl : (put (put S l0 (.lst zs)) f0 (.lst [])) l0 = some (.lst zs) := by rw [put_ne nlf]; exact put_same
      have cf : (put (put S l0 (.lst zs)) f0 (.lst [])) f0 = some (.lst []) := put_same
      have o2 : Ex1 p S (put (put S l0 (.lst zs)) f0 (.lst [])) := (Ex1.refl.new hl0).new hf0
      have sf : S f0 = none := by
        rw [put_ne (Ne.symm nlf)] at hf0
        exact hf0
      have sl : S l0 = none := hl0
      generalize put (put S l0 (.lst zs)) f0 (.lst []) = S2 at h2 cl cf o2 ⊢
      clear h1 hf0 hl0 hp
      walk_at "gr"
      refine vx_while (fun m ρ2 S3 => ∃ us fs : List D, ρ2 = [some (.ref p), some y, some (.ref l0), some (.ref f0)] ∧ us.length = m ∧ S3 l0 = some (.lst us) ∧ S3 f0 = some (.lst fs) ∧ (us ++ fs).Perm zs ∧ Pu S3 p (n + (zs.length : Int) - (us.length : Int)) ∧ Ex1 p S S3) zs.length ⟨zs, [], rfl, rfl, cl, cf, by rw [List.append_nil], h2.mono (by omega), o2⟩ ?_
      clear h2 cl cf o2
      rintro m ρ2 S3 ⟨us, fs, rfl, rfl, cl, cf, pm, h3, o3⟩
      have le : us.length + fs.length = zs.length := by rw [← List.length_append, pm.length_eq]
      walk_at "gr"
      refine ve_lst ?_
      walk_at "gr"
      refine ⟨fun e => ?_, fun e => ?_⟩
      · have pos : 0 < us.length := by
          cases us with
          | nil => cases e
          | cons _ _ => exact Nat.succ_pos _
        walk_at "gr"
        intro k S4 k0 k1 h4 o4
        have cl := (o4 l0 (Ne.symm npl)).trans cl
        have cf := (o4 f0 (Ne.symm npf)).trans cf
        have o4 := o3.trans o4.ex1
        obtain ⟨k, rfl⟩ := Int.eq_ofNat_of_zero_le k0
        have hk : k < us.length := by omega
        walk_at "gr"
        refine rm_popAt (j := k) cl rfl (by omega) (List.getElem?_eq_getElem hk) ?_
        have cf : (VS.put S4 l0 (.lst (us.eraseIdx k))) f0 = _ := (put_ne (Ne.symm nlf)).trans cf
        walk_at "gr"
        refine rm_append cf (by have := szl; omega) ?_
        have pe : (us.eraseIdx k).length = us.length - 1 := List.length_eraseIdx_of_lt hk
        refine ⟨us.length - 1, by omega, us.eraseIdx k, fs ++ [us[k]], rfl, pe, (put_ne nlf).trans put_same, put_same, ?_, ((h4.wr npl).wr npf).mono (by rw [pe]; omega), (o4.wr2 sl).wr2 sf⟩
        refine List.Perm.trans ?_ pm
        have p1 : us.Perm (us[k] :: us.eraseIdx k) := erase_perm hk
        have p2 : (us.eraseIdx k ++ (fs ++ [us[k]])).Perm (us[k] :: (us.eraseIdx k ++ fs)) := by
          rw [← List.append_assoc]
          exact List.perm_append_comm (l₂ := [us[k]])
        exact p2.trans (p1.symm.append_right fs)
      · have z : us = [] := by
          cases us with
          | nil => rfl
          | cons _ _ => cases e
        subst z
        have h3 : Pu S3 p (n + 100) := h3.mono (by have l0 : ([] : List D).length = 0 := rfl; omega)
        rcases q with q | q
        · refine vx_freeze 3 rfl cf ?_
          walk_at "gr"
          refine q fs _ pm ?_ (o3.dl sf)
          obtain ⟨x, y, z, e, r⟩ := h3
          exact ⟨x, y, z, (VS.del_ne npf).trans e, r⟩
        · walk_at "gr"
          exact q f0 fs _ pm sf npf cf h3 o3) only [↓VS.box]
end
end LW
namespace LW
open PySem L2 C8 PySem.Spec PyProof.Rows VS
/-! ### a thing of a list; all of a list -/
theorem pick (Q : D → Prop) {xs : List D} {i : Int} (h0 : 0 ≤ i) (h1 : i < xs.length) (all : ∀ x ∈ xs, Q x) : ∃ x, atI xs i = some x ∧ Q x := by
  obtain ⟨x, hx, e⟩ := atI_mem h0 h1
  exact ⟨x, e, all x hx⟩
theorem ac {Q : D → Prop} {a : D} {l : List D} (h : Q a) (t : ∀ x ∈ l, Q x) : ∀ x ∈ a :: l, Q x := fun x hx => by
  rcases List.mem_cons.mp hx with rfl | hx
  · exact h
  · exact t x hx
theorem an {Q : D → Prop} : ∀ x ∈ ([] : List D), Q x := nofun
theorem rv_ixAll {c : VS.Ctx} {S : Sto} {F : D → Sto → Prop} (Q : D → Prop) {xs : List D} {i : Int} (h0 : 0 ≤ i) (h1 : i < xs.length) (all : ∀ x ∈ xs, Q x) (q : ∀ x, Q x → F x S) : RV c (rIxL c.K) (.lst xs) (.int i) S F := by
  obtain ⟨x, ea, hx⟩ := pick Q h0 h1 all
  exact rv_ixL .v ea (q x hx)
theorem Pu.ext {S S' : Sto} {p : Addr} {n : Int} (h : Pu S p n) (x : Ext S S') : Pu S' p n := by
  obtain ⟨a, b, c, e, r⟩ := h
  exact ⟨a, b, c, x _ _ e, r⟩
end LW
namespace LW
open PySem L2 C8 PySem.Spec PyProof.Rows VS
/-! ### the law's names, none twice -/
def p__law_names : Pt := fun ds S G _ => ∃ (p : Addr) (n m : Int), ds = [.ref p, .int m] ∧ Pu S p n ∧ n < 800000 ∧ 0 ≤ m ∧ m ≤ 12 ∧
  ∀ (zs : List Str) (S' : Sto), (zs.length : Int) = m → (∀ z ∈ zs, Nm z) → zs.Nodup → Pu S' p (n + 20) → Ex1 p S S' → G (.lst (zs.map D.str)) S'
theorem lett_ex {i : Int} (h0 : 0 ≤ i) (h1 : i < 26) : atI ("abcdefghijklmnopqrstuvwxyz" : Str).cps.toList i = some (97 + i.toNat) := by
  obtain ⟨k, rfl⟩ := Int.eq_ofNat_of_zero_le h0
  have h : ∀ k, k < 26 → ("abcdefghijklmnopqrstuvwxyz" : Str).cps.toList[k]? = some (97 + k) := by decide +kernel
  exact atI_nat (h k (by omega))
def chN (i : Int) : Nat := 97 + (i % 26).toNat
theorem chN_lc (i : Int) : lcN (chN i) = true := by
  have h0 : 0 ≤ i % 26 := Int.emod_nonneg _ (by decide)
  have h1 : i % 26 < 26 := Int.emod_lt_of_pos _ (by decide)
  obtain ⟨n, e, l⟩ := lett_at h0 h1
  rw [lett_ex h0 h1] at e
  cases e
  exact l
def smN (w : Int) (k : Nat) : Int := if w = 1 ∧ (k : Int) % 3 = 1 then (k : Int) - 1 else k
def xtN (w f : Int) (k : Nat) : Str := if (w = 1 ∧ (k : Int) % 3 = 1) ∨ (w = 2 ∧ (k : Int) % 2 = 1) then ⟨#[chN (f + k)]⟩ else Str.empty
def nmN (w f s : Int) (hd tl : Str) (k : Nat) : Str := hd ++ ⟨#[chN (f + s * smN w k)]⟩ ++ tl ++ xtN w f k
theorem xt_list (w f : Int) (k : Nat) : (xtN w f k).cps.toList = if (w = 1 ∧ (k : Int) % 3 = 1) ∨ (w = 2 ∧ (k : Int) % 2 = 1) then [chN (f + k)] else [] := by
  unfold xtN
  split <;> rfl
theorem nm_list (w f s : Int) (hd tl : Str) (k : Nat) : (nmN w f s hd tl k).cps.toList = hd.cps.toList ++ (chN (f + s * smN w k) :: (tl.cps.toList ++ (xtN w f k).cps.toList)) := by
  unfold nmN
  have e : ∀ a b : Str, (a ++ b).cps.toList = a.cps.toList ++ b.cps.toList := fun a b => by
    show (a.cps ++ b.cps).toList = _
    rw [Array.toList_append]
  rw [e, e, e, List.append_assoc, List.append_assoc]
  rfl
theorem nm_inj {w f s : Int} {hd tl : Str} (hs : s = 1 ∨ s = 5 ∨ s = 7 ∨ s = 11) {k j : Nat} (hk : k < j) (hj : j < 12) : nmN w f s hd tl k ≠ nmN w f s hd tl j := fun e => by
  have e : (nmN w f s hd tl k).cps.toList = (nmN w f s hd tl j).cps.toList := by rw [e]
  rw [nm_list, nm_list] at e
  have e := List.append_cancel_left e
  injection e with e1 e2
  have e2 := List.append_cancel_left e2
  rw [xt_list, xt_list] at e2
  unfold chN at e1
  have b : ∀ i : Nat, i < 12 → 0 ≤ smN w i ∧ smN w i ≤ 11 := fun i hi => by
    unfold smN
    split
    · omega
    · omega
  obtain ⟨b1, b2⟩ := b k (by omega)
  obtain ⟨b3, b4⟩ := b j hj
  have es : smN w k = smN w j := by
    rcases hs with rfl | rfl | rfl | rfl <;> omega
  unfold smN at es
  by_cases h1 : w = 1 ∧ (k : Int) % 3 = 1
  · rw [if_pos h1] at es
    by_cases h2 : w = 1 ∧ (j : Int) % 3 = 1
    · rw [if_pos h2] at es; omega
    · rw [if_neg h2] at es; omega
  · rw [if_neg h1] at es
    by_cases h2 : w = 1 ∧ (j : Int) % 3 = 1
    · rw [if_neg (fun z => z.elim h1 (fun z => by omega)), if_pos (.inl h2)] at e2
      cases e2
    · rw [if_neg h2] at es; omega
theorem nm_nodup {w f s : Int} {hd tl : Str} (hs : s = 1 ∨ s = 5 ∨ s = 7 ∨ s = 11) {n : Nat} (hn : n ≤ 12) : ((List.range n).map (nmN w f s hd tl)).Nodup := by
  rw [List.nodup_iff_pairwise_ne, List.pairwise_map]
  exact List.pairwise_lt_range.imp_of_mem fun _ hb h => nm_inj hs h (by have := List.mem_range.mp hb; omega)
theorem empty_lw : Lw 0 Str.empty := ⟨Nat.le_refl _, nofun⟩
theorem nm_ok {w f s : Int} {hd tl : Str} (h : Lw 6 (hd ++ tl)) (k : Nat) : Nm (nmN w f s hd tl k) := by
  have hl := h.1
  rw [len_add] at hl
  have x : Lw 1 (xtN w f k) := by
    unfold xtN
    split
    · exact Lw.one (chN_lc _)
    · exact empty_lw.mono (by decide)
  have xl := x.1
  have l1 : (⟨#[chN (f + s * smN w k)]⟩ : Str).length = 1 := rfl
  refine ⟨⟨?_, fun c hc => ?_⟩, ?_⟩
  · unfold nmN
    rw [len_add, len_add, len_add]
    omega
  · rw [nm_list] at hc
    have e : (hd ++ tl).cps.toList = hd.cps.toList ++ tl.cps.toList := by
      show (hd.cps ++ tl.cps).toList = _
      rw [Array.toList_append]
    rcases List.mem_append.mp hc with hc | hc
    · exact h.2 c (by rw [e]; exact List.mem_append.mpr (.inl hc))
    · rcases List.mem_cons.mp hc with rfl | hc
      · exact chN_lc _
      · rcases List.mem_append.mp hc with hc | hc
        · exact h.2 c (by rw [e]; exact List.mem_append.mpr (.inr hc))
        · exact x.2 c hc
  · unfold nmN
    rw [len_add, len_add, len_add]
    omega
def nmW12 : List Str := ["in", "x", "wall", "rest", "box", "parcel", "none", "alone", "top", "turn", "stack", "heavy"]
theorem nmW12_ok : ∀ z ∈ nmW12, Nm z := by
  have h : (nmW12.all fun z => (decide (z.length ≤ 8) && z.cps.toList.all lcN) && decide (1 ≤ z.length)) = true := by decide +kernel
  rw [List.all_eq_true] at h
  intro z hz
  have := h z hz
  rw [Bool.and_eq_true, decide_eq_true_eq] at this
  exact ⟨Lw.lit this.1, this.2⟩
theorem nmW12_nd : nmW12.Nodup := by decide +kernel
def w12 (f s : Int) (k : Nat) : Str := nmW12.getD ((f + s * (k : Int)) % 12).toNat Str.empty
theorem w12_at (f s : Int) (k : Nat) : atI (nmW12.map D.str) ((f + s * (k : Int)) % 12) = some (.str (w12 f s k)) ∧ w12 f s k ∈ nmW12 := by
  have h0 : 0 ≤ (f + s * (k : Int)) % 12 := Int.emod_nonneg _ (by decide)
  have h1 : (f + s * (k : Int)) % 12 < 12 := Int.emod_lt_of_pos _ (by decide)
  unfold w12
  generalize (f + s * (k : Int)) % 12 = i at h0 h1
  obtain ⟨j, rfl⟩ := Int.eq_ofNat_of_zero_le h0
  have hj : j < nmW12.length := by show j < 12; omega
  rw [Int.toNat_natCast, List.getD_eq_getElem?_getD, List.getElem?_eq_getElem hj]
  exact ⟨atI_nat (by rw [List.getElem?_map, List.getElem?_eq_getElem hj]; rfl), List.getElem_mem hj⟩
theorem w12_inj {f s : Int} (hs : s = 1 ∨ s = 5 ∨ s = 7 ∨ s = 11) {k j : Nat} (hk : k < j) (hj : j < 12) : w12 f s k ≠ w12 f s j := fun e => by
  have b : ∀ i : Int, ∃ n : Nat, i % 12 = n ∧ n < nmW12.length := fun i => by
    have h0 : 0 ≤ i % 12 := Int.emod_nonneg _ (by decide)
    have h1 : i % 12 < 12 := Int.emod_lt_of_pos _ (by decide)
    exact ⟨(i % 12).toNat, by omega, by show _ < 12; omega⟩
  obtain ⟨a, ea, ha⟩ := b (f + s * (k : Int))
  obtain ⟨c, ec, hc⟩ := b (f + s * (j : Int))
  unfold w12 at e
  rw [ea, ec, Int.toNat_natCast, Int.toNat_natCast, List.getD_eq_getElem?_getD, List.getD_eq_getElem?_getD, List.getElem?_eq_getElem ha, List.getElem?_eq_getElem hc] at e
  have := (List.getElem?_inj (i := a) (j := c) ha nmW12_nd).mp (by rw [List.getElem?_eq_getElem ha, List.getElem?_eq_getElem hc]; exact congrArg some e)
  subst this
  rcases hs with rfl | rfl | rfl | rfl <;> omega
theorem w12_nodup {f s : Int} (hs : s = 1 ∨ s = 5 ∨ s = 7 ∨ s = 11) {n : Nat} (hn : n ≤ 12) : ((List.range n).map (w12 f s)).Nodup := by
  rw [List.nodup_iff_pairwise_ne, List.pairwise_map]
  exact List.pairwise_lt_range.imp_of_mem fun _ hb h => w12_inj hs h (by have := List.mem_range.mp hb; omega)
theorem cut_two {α : Type} (f : α → D) (ys : List α) (k : Nat) : ∃ zs ws : List α, cutD (ys.map f) none (some (k : Int)) = zs.map f ∧ cutD (ys.map f) (some (k : Int)) none = ws.map f ∧ zs ++ ws = ys := by
  refine ⟨ys.take (min k ys.length), ys.drop (min k ys.length), ?_, ?_, List.take_append_drop _ _⟩
  · show ((ys.map f).drop 0).take (HT.sIx (ys.map f).length (ys.map f).length (some (k : Int)) - 0) = _
    rw [HT.sIx_nat, List.drop_zero, Nat.sub_zero, List.length_map, List.map_take]
  · show ((ys.map f).drop (HT.sIx (ys.map f).length 0 (some (k : Int)))).take ((ys.map f).length - HT.sIx (ys.map f).length 0 (some (k : Int))) = _
    rw [HT.sIx_nat, List.length_map, ← List.map_drop, List.take_of_length_le (by rw [List.length_map, List.length_drop]; exact Nat.le_refl _)]
/-- the texts of a walk over numbers -/
def rngF (f : Nat → Str) : D → D
  | .int i => .str (f i.toNat)
  | _ => .non
theorem rng_map {m : Int} {f : Nat → Str} : (rngD 0 m.toNat).map (rngF f) = ((List.range m.toNat).map f).map D.str := by
  unfold rngD
  rw [List.map_map, List.map_map]
  apply List.map_congr_left
  intro a _
  show D.str (f (0 + (a : Int)).toNat) = D.str (f a)
  rw [Int.zero_add, Int.toNat_natCast]
theorem rng_mem {m : Int} {d : D} (h : d ∈ rngD 0 m.toNat) : ∃ k : Nat, d = .int k ∧ (k : Int) < m := by
  obtain ⟨i, hi, rfl⟩ := List.mem_map.mp h
  have := List.mem_range.mp hi
  exact ⟨i, by rw [Int.zero_add], by omega⟩
section
variable {P : Program} {w : World} {K : PySem.W.Frag} {mg : Str → Option Value} {base : Heap}
theorem ok__law_names {f : Addr} {fd : FuncData} {C_Sides C_Parcel C_Heap C_NoSide C_NoNames : Addr} {f__law_take : Addr} {g__law_take : FuncData}
    (F : Fd K "_law_names" "_law_names" s__law_names [] f fd) (T : Tx K mg) (hsys : SysOk base)
    (c__law_take : Cf P w K mg base (L2.CX P w) 1 "_law_take" s__law_take [] a__law_take p__law_take f__law_take g__law_take) :
    FnG P w K mg base (L2.CX P w) 2 f fd a__law_names (spOf K p__law_names) := by
  refine VS.unbox ?_
  simp (disch := with_unfolding_all
    refine fn_val F sc__law_names (fun ds S G Y h => ?_) (fun cdv A hgd outer s H E hr px tk po ds S G Y h => ?_)
    · obtain ⟨p, n, m, rfl, _⟩ := h
      rfl
    · obtain ⟨p, n, m, rfl, hp, hn, m0, m1, q⟩ := h
      refine ⟨_, (pss_cons (ps_set (i := 2) sc__law_names.nd rfl (Or.inr rfl) pe_str)
        (pss_cons (ps_set (i := 3) sc__law_names.nd rfl (Or.inl rfl) (pe_cG c__law_take.fn hgd (hr.mono (by decide)) (by rfl) c__law_take.mg c__law_take.kp c__law_take.b .nil VS.pass0 (pa_cons (pv 0) (pa_cons pe_int pa_nil))))
        (pss_cons (ps_set (i := 4) sc__law_names.nd rfl (Or.inr rfl) (pe_cG c__law_take.fn hgd (hr.mono (by decide)) (by rfl) c__law_take.mg c__law_take.kp c__law_take.b .nil VS.pass0 (pa_cons (pv 0) (pa_cons pe_int pa_nil))))
        (pss_cons (ps_set (i := 5) sc__law_names.nd rfl (Or.inr rfl) (pe_ix ix_list (pe_lst (pa_cons pe_int (pa_cons pe_int (pa_cons pe_int (pa_cons pe_int pa_nil))))) (pe_cG c__law_take.fn hgd (hr.mono (by decide)) (by rfl) c__law_take.mg c__law_take.kp c__law_take.b .nil VS.pass0 (pa_cons (pv 0) (pa_cons pe_int pa_nil))) (fun _ _ => rfl)))
        (pss_cons (ps_if (pt_cmpR op_eq (pv 3) pe_int (nomark _)) (pss_cons (ps_set (i := 6) sc__law_names.nd rfl (Or.inr rfl) (pe_lst (pa_cons pe_str (pa_cons pe_str (pa_cons pe_str (pa_cons pe_str (pa_cons pe_str (pa_cons pe_str (pa_cons pe_str (pa_cons pe_str (pa_cons pe_str (pa_cons pe_str (pa_cons pe_str (pa_cons pe_str pa_nil))))))))))))))
        (pss_one (ps_ret (pe_lc (own := [("_law_k", 12)]) rfl sc__law_names.nd (pi_range1 (by rfl) T.b_range (pa_cons (pv 1) pa_nil)) (blkOk_by (own := [("_law_k", 12)]) (N := n__law_names) (sc := defScope s__law_names) (by decide +kernel)) (fun _ _ _ _ _ => (pg_name (i := 12) sc__law_names.nd rfl (Or.inl rfl))) (fun _ _ _ _ _ => pts_nil) (fun _ _ _ _ _ => (pe_ix (kI (K := K) (r := rIxL) ix_list) (pv 6) (pe_op op_mod (pe_op op_add (pv 4) (pe_op op_mulW (pv 5) (pv 12))) pe_int) (fun _ _ => rfl)))))))
        pss_nil)
        (pss_cons (ps_setLc (i := 7) (own := [("_law_k", 12)]) rfl sc__law_names.nd rfl rfl (sw_true rfl rfl rfl (by decide +kernel)) (pi_range1 (by rfl) T.b_range (pa_cons (pe_cG c__law_take.fn hgd (hr.mono (by decide)) (by rfl) c__law_take.mg c__law_take.kp c__law_take.b .nil VS.pass0 (pa_cons (pv 0) (pa_cons pe_int pa_nil))) pa_nil)) (blkOk_by (own := [("_law_k", 12)]) (N := n__law_names) (sc := defScope s__law_names) (by decide +kernel)) (fun _ _ _ _ _ => (pg_name (i := 12) sc__law_names.nd rfl (Or.inl rfl))) (fun _ _ _ _ _ => pts_nil) (fun _ _ _ _ _ => (pe_ix ix_str (pv 2) (pe_cG c__law_take.fn hgd (hr.mono (by decide)) (by rfl) c__law_take.mg c__law_take.kp c__law_take.b .nil VS.pass0 (pa_cons (pv 0) (pa_cons pe_int pa_nil))) (fun _ _ => rfl))))
        (pss_cons (ps_set (i := 8) sc__law_names.nd rfl (Or.inl rfl) (pe_cG c__law_take.fn hgd (hr.mono (by decide)) (by rfl) c__law_take.mg c__law_take.kp c__law_take.b .nil VS.pass0 (pa_cons (pv 0) (pa_cons (pe_op op_add (pe_callB c_len (by rfl) T.b_len (by decide +kernel) (pa_cons (pv 7) pa_nil)) pe_int) pa_nil))))
        (pss_cons (ps_par (i := 9) (j := 10) (by rfl) sc__law_names.nd rfl rfl (by decide) rfl rfl (pa_cons (pe_m1 PySem.F.slot_str_join PySem.F.type_str_join m_join pe_str (pe_slice sl_list (pv 7) po_none (po_some (pv 8)))) (pa_cons (pe_m1 PySem.F.slot_str_join PySem.F.type_str_join m_join pe_str (pe_slice sl_list (pv 7) (po_some (pv 8)) po_none)) pa_nil)) (by rfl))
        (pss_cons (ps_set (i := 11) sc__law_names.nd rfl (Or.inl rfl) (pe_lst pa_nil))
        (pss_cons (ps_for po rfl (pi_range1 (by rfl) T.b_range (pa_cons (pv 1) pa_nil)) (pg_name (i := 12) sc__law_names.nd rfl (Or.inl rfl))
        (pss_cons (ps_set (i := 13) sc__law_names.nd rfl (Or.inl rfl) (pe_op op_sub (pv 12) (pe_callTy c_int1 (by rfl) T.b_int (by decide +kernel) (pa_cons (pe_and (pe_cmpR op_eq (pv 3) pe_int (nomark _)) (pe_one (pe_cmpR op_eq (pe_op op_mod (pv 12) pe_int) pe_int (nomark _)))) pa_nil))))
        (pss_cons (ps_set (i := 14) sc__law_names.nd rfl (Or.inl rfl) (pe_op op_addS (pe_op op_addS (pv 9) (pe_ix ix_str (pv 2) (pe_op op_mod (pe_op op_add (pv 4) (pe_op op_mulW (pv 5) (pv 13))) pe_int) (fun _ _ => rfl))) (pv 10)))
        (pss_cons (ps_if (PW.pt (pw_or (PW.pt (pw_and (pt_cmpR op_eq (pv 3) pe_int (nomark _)) (pw_and1 (pt_cmpR op_eq (pe_op op_mod (pv 12) pe_int) pe_int (nomark _))))) (pw_or1 (PW.pt (pw_and (pt_cmpR op_eq (pv 3) pe_int (nomark _)) (pw_and1 (pt_cmpR op_eq (pe_op op_mod (pv 12) pe_int) pe_int (nomark _)))))))) (pss_one (ps_set (i := 14) sc__law_names.nd rfl (Or.inl rfl) (pe_op op_addS (pv 14) (pe_ix ix_str (pv 2) (pe_op op_mod (pe_op op_add (pv 4) (pv 12)) pe_int) (fun _ _ => rfl)))))
        pss_nil)
        (pss_one (ps_expr (pe_bm PySem.F.plainAttrs_list PySem.F.slot_list_append PySem.F.type_list_append mt_append (pv 11) (pa_cons (pv 14) pa_nil))))))))
        (pss_one (ps_ret (pv 11))))))))))))), ?_⟩
      (try dsimp only [cxOf, List.map])
      show VX _ _ [_, _, _, _, _, _, _, _, _, _, _, _, _, _, _] _ _
      walk_at "gr"
      intro w S1 w0 w1 h1 o1
      walk_at "gr"
      intro f S2 f0 f1 h2 o2
      have o2 := o1.trans o2
      clear h1 o1 hp
      walk_at "gr"
      refine ve_lst ?_
      walk_at "gr"
      intro t S3 t0 t1 h3 o3
      have o3 := o2.trans o3
      clear h2 o2
      obtain ⟨x, ea, s, rfl, hs⟩ := pick (fun d => ∃ s : Int, d = .int s ∧ (s = 1 ∨ s = 5 ∨ s = 7 ∨ s = 11)) (xs := [.int 1, .int 5, .int 7, .int 11]) t0 t1 (ac ⟨_, rfl, by decide⟩ (ac ⟨_, rfl, by decide⟩ (ac ⟨_, rfl, by decide⟩ (ac ⟨_, rfl, by decide⟩ an))))
      refine rv_ixL .v ea ?_
      clear ea t0 t1
      have sb : 1 ≤ s ∧ s ≤ 11 := by omega
      walk_at "gr"
      refine VS.br (fun e => ?_) (fun e => ?_)
      · walk_at "gr"
        refine ve_lst ?_
        walk_at "gr"
        refine ve_lcM (rngF (w12 f s)) (vi_rng1 ?_)
        walk_at "gr"
        refine ⟨m, rfl, by omega, by rw [rngD_len]; omega, fun d hd => ?_, ?_⟩
        · obtain ⟨k, rfl, hk⟩ := rng_mem hd
          have g1 : s * (k : Int) ≤ 11 * 12 := Int.mul_le_mul (by omega) (by omega) (by omega) (by decide)
          have g0 : 0 ≤ s * (k : Int) := Int.mul_nonneg (by omega) (by omega)
          walk_at "gr"
          refine ⟨rfl, ?_⟩
          walk_at "gr"
          refine rv_ixL .v (w12_at f s k).1 ?_
          exact ⟨by show _ = D.str (w12 f s (k : Int).toNat); rw [Int.toNat_natCast], rfl⟩
        · rw [rng_map]
          refine q _ _ (by rw [List.length_map, List.length_range]; omega) (fun z hz => ?_) (w12_nodup hs (by omega)) (h3.mono (by omega)) o3.ex1
          obtain ⟨k, _, rfl⟩ := List.mem_map.mp hz
          exact nmW12_ok _ (w12_at f s k).2
      · walk_at "gr"
        refine ve_lcJ (fun d => ∃ z, d = .str z ∧ Lw 1 z) (fun i S4 => Pu S4 p (n + 4 + (i : Nat)) ∧ Off p S S4) (vi_rng1 ?_)
        walk_at "gr"
        intro r S4 r0 r1 h4 o4
        have o4 := o3.trans o4
        walk_at "gr"
        refine ⟨r, rfl, by omega, by rw [rngD_len]; omega, ⟨h4.mono (by omega), o4⟩, ?_, ?_⟩
        · rintro i d S5 hd ⟨h5, o5⟩
          obtain ⟨rfl, hi⟩ := rngD_at hd
          walk_at "gr"
          refine ⟨rfl, ?_⟩
          walk_at "gr"
          intro t S6 t0 t1 h6 o6
          refine rv_ixS (by decide) (lett_ex t0 t1) ?_
          obtain ⟨ch, ea, el⟩ := lett_at t0 t1
          rw [lett_ex t0 t1] at ea
          cases ea
          exact ⟨⟨_, rfl, Lw.one el⟩, h6.mono (by omega), o5.trans o6⟩
        rintro acc S5 hl ha ⟨h5, o5⟩
        rw [rngD_len] at hl h5
        obtain ⟨ys, rfl, hy⟩ := strs_all ha
        rw [List.length_map] at hl
        have hl6 : ys.length ≤ 6 := by omega
        have h5 : Pu S5 p (n + 10) := h5.mono (by omega)
        clear h3 o3 h4 o4 ha
        walk_at "gr"
        refine take_ok h5 (by omega) (by omega) (by rw [List.length_map]; omega) fun at_ S6 at0 at1 h6 o6 => ?_
        have o6 := o5.trans o6
        clear h5 o5
        obtain ⟨ka, rfl⟩ := Int.eq_ofNat_of_zero_le at0
        obtain ⟨zs, ws, ez, ew, eys⟩ := cut_two D.str ys ka
        have lz : zs.length + ws.length ≤ 6 := by rw [← List.length_append, eys]; exact hl6
        have hz : ∀ z ∈ zs, Lw 1 z := fun z h => hy z (by rw [← eys]; exact List.mem_append.mpr (.inl h))
        have hw : ∀ z ∈ ws, Lw 1 z := fun z h => hy z (by rw [← eys]; exact List.mem_append.mpr (.inr h))
        have wz : Lw zs.length (Txt.join ("" : Str) zs) := Lw.join0 hz (Nat.le_refl _)
        have ww : Lw ws.length (Txt.join ("" : Str) ws) := Lw.join0 hw (Nat.le_refl _)
        have l0 : (Str.ofString "").length = 0 := by decide
        walk_at "gr"
        refine rs_list .v ?_
        rw [ez]
        refine rm_join (.l .v) (by have := sum_le fun y z => (hz y z).1; rw [l0]; omega) ?_
        walk_at "gr"
        refine rs_list .v ?_
        rw [ew]
        refine rm_join (.l .v) (by have := sum_le fun y z => (hw y z).1; rw [l0]; omega) ?_
        have w6 : Lw 6 (Txt.join ("" : Str) zs ++ Txt.join ("" : Str) ws) := (wz.add ww).mono lz
        generalize Txt.join ("" : Str) zs = hd at w6 wz ⊢
        generalize Txt.join ("" : Str) ws = tl at w6 ww ⊢
        have lh := wz.1
        have lt := ww.1
        clear wz ww hz hw ez ew eys hy hl hl6 r0 r1
        walk_at "gr"
        refine ve_lstc ?_
        walk_at "gr"
        intro fl hfl
        have npf := h6.ne hfl
        have hS : S fl = none := by rw [← o6 fl (Ne.symm npf)]; exact hfl
        have h7 : Pu (put S6 fl (.lst [])) p (n + 15) := (h6.put hfl).mono (by omega)
        have c7 : (put S6 fl (.lst [])) fl = some (.lst []) := put_same
        have o7 : Ex1 p S (put S6 fl (.lst [])) := o6.ex1.new hfl
        show VG _ _ _ _ (put S6 fl (.lst [])) _
        generalize put S6 fl (.lst []) = S7 at h7 c7 o7 ⊢
        clear h6 o6 hfl
        have hw4 : w = 1 ∨ w = 2 ∨ w = 3 ∨ w = 4 := by omega
        walk_at "gr"
        refine vx_for (vi_rng1 ?_)
        walk_at "gr"
        refine ⟨m, rfl, by constructor <;> omega, fun i ρ2 S2 => ∃ x12 x13 x14, ρ2 = [some (.ref p), some (.int m), some (.str "abcdefghijklmnopqrstuvwxyz"), some (.int w), some (.int f), some (.int s), none, some (.lst (ys.map D.str)), some (.int ka), some (.str hd), some (.str tl), some (.ref fl), x12, x13, x14] ∧
          S2 fl = some (.lst (((List.range i).map (nmN w f s hd tl)).map D.str)) ∧ Pu S2 p (n + 15) ∧ Ex1 p S S2, ⟨_, _, _, rfl, c7, h7, o7⟩, ?_, ?_⟩
        · rintro i d_ _ S2 hd_ ⟨x12, x13, x14, rfl, cf, h8, o8⟩
          obtain ⟨rfl, hi⟩ := rngD_at hd_
          have hl9 : (((List.range i).map (nmN w f s hd tl)).map D.str).length < sizeLine := by rw [List.length_map, List.length_map, List.length_range]; have := szl; omega
          have fin : ∀ z : Str, z = nmN w f s hd tl i → ∀ x12 x13 x14, ∃ y12 y13 y14, ([some (.ref p), some (.int m), some (.str "abcdefghijklmnopqrstuvwxyz"), some (.int w), some (.int f), some (.int s), none, some (.lst (ys.map D.str)), some (.int ka), some (.str hd), some (.str tl), some (.ref fl), x12, x13, x14] : Rho) = [some (.ref p), some (.int m), some (.str "abcdefghijklmnopqrstuvwxyz"), some (.int w), some (.int f), some (.int s), none, some (.lst (ys.map D.str)), some (.int ka), some (.str hd), some (.str tl), some (.ref fl), y12, y13, y14] ∧
              (VS.put S2 fl (.lst (((List.range i).map (nmN w f s hd tl)).map D.str ++ [.str z]))) fl = some (.lst (((List.range (i + 1)).map (nmN w f s hd tl)).map D.str)) ∧ Pu (VS.put S2 fl (.lst (((List.range i).map (nmN w f s hd tl)).map D.str ++ [.str z]))) p (n + 15) ∧ Ex1 p S (VS.put S2 fl (.lst (((List.range i).map (nmN w f s hd tl)).map D.str ++ [.str z]))) := by
            rintro z rfl x12 x13 x14
            exact ⟨_, _, _, rfl, by rw [put_same, List.range_succ, List.map_append, List.map_append]; rfl, h8.wr npf, o8.wr2 hS⟩
          have b1 : ∀ j : Int, 0 ≤ j % 26 := fun j => Int.emod_nonneg _ (by decide)
          have b2 : ∀ j : Int, j % 26 < 26 := fun j => Int.emod_lt_of_pos _ (by decide)
          have g0 : ∀ j : Int, 0 ≤ j → j ≤ 12 → 0 ≤ s * j ∧ s * j ≤ 11 * 12 := fun j h0 h1 => ⟨Int.mul_nonneg (by omega) h0, Int.mul_le_mul (by omega) h1 h0 (by decide)⟩
          have gi := g0 i (by omega) (by omega)
          have l1 : ∀ c : Nat, (⟨#[c]⟩ : Str).length = 1 := fun _ => rfl
          clear g0 hd_ c7 h7 o7
          rcases hw4 with rfl | rfl | rfl | rfl
          · walk_at "gr"
            by_cases k3 : (i : Int) % 3 = 1
            · have es : ((i : Int) - if decide ((i : Int) % 3 = 1) = true then 1 else 0) = smN 1 i := by unfold smN; rw [decide_eq_true k3, if_pos rfl, if_pos ⟨rfl, k3⟩]
              rw [es]
              have lc : (⟨#[97 + ((f + s * smN 1 i) % 26).toNat]⟩ : Str).length = 1 := rfl
              have lc2 : (hd ++ ⟨#[97 + ((f + s * smN 1 i) % 26).toNat]⟩ : Str).length = hd.length + 1 := by rw [len_add]; rfl
              have lc3 : (hd ++ ⟨#[97 + ((f + s * smN 1 i) % 26).toNat]⟩ ++ tl : Str).length = hd.length + 1 + tl.length := by rw [len_add, lc2]
              refine rv_ixS (by decide) (lett_ex (b1 _) (b2 _)) ?_
              walk_at "gr"
              refine brYd k3 ?_
              walk_at "gr"
              have le : (⟨#[97 + ((f + (i : Int)) % 26).toNat]⟩ : Str).length = 1 := rfl
              refine rv_ixS (by decide) (lett_ex (b1 _) (b2 _)) ?_
              walk_at "gr"
              refine rm_append cf hl9 ?_
              exact fin _ (by unfold nmN xtN; rw [if_pos (by exact .inl ⟨rfl, k3⟩)]; rfl) _ _ _
            · have es : ((i : Int) - if decide ((i : Int) % 3 = 1) = true then 1 else 0) = smN 1 i := by unfold smN; rw [decide_eq_false k3, if_neg (by decide), if_neg (fun z => k3 z.2)]; omega
              rw [es]
              have lc : (⟨#[97 + ((f + s * smN 1 i) % 26).toNat]⟩ : Str).length = 1 := rfl
              have lc2 : (hd ++ ⟨#[97 + ((f + s * smN 1 i) % 26).toNat]⟩ : Str).length = hd.length + 1 := by rw [len_add]; rfl
              have lc3 : (hd ++ ⟨#[97 + ((f + s * smN 1 i) % 26).toNat]⟩ ++ tl : Str).length = hd.length + 1 + tl.length := by rw [len_add, lc2]
              refine rv_ixS (by decide) (lett_ex (b1 _) (b2 _)) ?_
              walk_at "gr"
              refine brYn k3 ?_
              walk_at "gr"
              refine rm_append cf hl9 ?_
              exact fin _ (by unfold nmN xtN; rw [if_neg (by exact fun z => z.elim (fun z => k3 z.2) (fun z => by cases z.1))]; exact (PySem.Str.append_empty _).symm) _ _ _
          · walk_at "gr"
            by_cases k2 : (i : Int) % 2 = 1
            · have es : ((i : Int) - if false = true then 1 else 0) = smN 2 i := by unfold smN; rw [if_neg (by decide), if_neg (fun z => by cases z.1)]; omega
              rw [es]
              have lc : (⟨#[97 + ((f + s * smN 2 i) % 26).toNat]⟩ : Str).length = 1 := rfl
              have lc2 : (hd ++ ⟨#[97 + ((f + s * smN 2 i) % 26).toNat]⟩ : Str).length = hd.length + 1 := by rw [len_add]; rfl
              have lc3 : (hd ++ ⟨#[97 + ((f + s * smN 2 i) % 26).toNat]⟩ ++ tl : Str).length = hd.length + 1 + tl.length := by rw [len_add, lc2]
              refine rv_ixS (by decide) (lett_ex (b1 _) (b2 _)) ?_
              walk_at "gr"
              refine brYd k2 ?_
              walk_at "gr"
              have le : (⟨#[97 + ((f + (i : Int)) % 26).toNat]⟩ : Str).length = 1 := rfl
              refine rv_ixS (by decide) (lett_ex (b1 _) (b2 _)) ?_
              walk_at "gr"
              refine rm_append cf hl9 ?_
              exact fin _ (by unfold nmN xtN; rw [if_pos (by exact .inr ⟨rfl, k2⟩)]; rfl) _ _ _
            · have es : ((i : Int) - if false = true then 1 else 0) = smN 2 i := by unfold smN; rw [if_neg (by decide), if_neg (fun z => by cases z.1)]; omega
              rw [es]
              have lc : (⟨#[97 + ((f + s * smN 2 i) % 26).toNat]⟩ : Str).length = 1 := rfl
              have lc2 : (hd ++ ⟨#[97 + ((f + s * smN 2 i) % 26).toNat]⟩ : Str).length = hd.length + 1 := by rw [len_add]; rfl
              have lc3 : (hd ++ ⟨#[97 + ((f + s * smN 2 i) % 26).toNat]⟩ ++ tl : Str).length = hd.length + 1 + tl.length := by rw [len_add, lc2]
              refine rv_ixS (by decide) (lett_ex (b1 _) (b2 _)) ?_
              walk_at "gr"
              refine brYn k2 ?_
              walk_at "gr"
              refine rm_append cf hl9 ?_
              exact fin _ (by unfold nmN xtN; rw [if_neg (by exact fun z => z.elim (fun z => by cases z.1) (fun z => k2 z.2))]; exact (PySem.Str.append_empty _).symm) _ _ _
          · walk_at "gr"
            have es : ((i : Int) - if false = true then 1 else 0) = smN 3 i := by unfold smN; rw [if_neg (by decide), if_neg (fun z => by cases z.1)]; omega
            rw [es]
            have lc : (⟨#[97 + ((f + s * smN 3 i) % 26).toNat]⟩ : Str).length = 1 := rfl
            have lc2 : (hd ++ ⟨#[97 + ((f + s * smN 3 i) % 26).toNat]⟩ : Str).length = hd.length + 1 := by rw [len_add]; rfl
            have lc3 : (hd ++ ⟨#[97 + ((f + s * smN 3 i) % 26).toNat]⟩ ++ tl : Str).length = hd.length + 1 + tl.length := by rw [len_add, lc2]
            refine rv_ixS (by decide) (lett_ex (b1 _) (b2 _)) ?_
            walk_at "gr"
            refine rm_append cf hl9 ?_
            exact fin _ (by unfold nmN xtN; rw [if_neg (by exact fun z => z.elim (fun z => by cases z.1) (fun z => by cases z.1))]; exact (PySem.Str.append_empty _).symm) _ _ _
          · walk_at "gr"
            have es : ((i : Int) - if false = true then 1 else 0) = smN 4 i := by unfold smN; rw [if_neg (by decide), if_neg (fun z => by cases z.1)]; omega
            rw [es]
            have lc : (⟨#[97 + ((f + s * smN 4 i) % 26).toNat]⟩ : Str).length = 1 := rfl
            have lc2 : (hd ++ ⟨#[97 + ((f + s * smN 4 i) % 26).toNat]⟩ : Str).length = hd.length + 1 := by rw [len_add]; rfl
            have lc3 : (hd ++ ⟨#[97 + ((f + s * smN 4 i) % 26).toNat]⟩ ++ tl : Str).length = hd.length + 1 + tl.length := by rw [len_add, lc2]
            refine rv_ixS (by decide) (lett_ex (b1 _) (b2 _)) ?_
            walk_at "gr"
            refine rm_append cf hl9 ?_
            exact fin _ (by unfold nmN xtN; rw [if_neg (by exact fun z => z.elim (fun z => by cases z.1) (fun z => by cases z.1))]; exact (PySem.Str.append_empty _).symm) _ _ _
        · rintro ρ2 S2 ⟨x12, x13, x14, rfl, cf, h8, o8⟩
          rw [rngD_len] at cf
          refine vx_freeze 11 rfl cf ?_
          walk_at "gr"
          refine q _ _ (by rw [List.length_map, List.length_range]; omega) (fun z hz => ?_) (nm_nodup hs (by omega)) ?_ (o8.dl hS)
          · obtain ⟨k, _, rfl⟩ := List.mem_map.mp hz
            exact nm_ok w6 k
          · obtain ⟨x, y, z, e, r⟩ := h8
            exact ⟨x, y, z, (VS.del_ne npf).trans e, r.1, r.2.1, r.2.2.1, by have := r.2.2.2; omega⟩) only [↓VS.box]
end
end LW
namespace LW
open PySem L2 C8 PySem.Spec PyProof.Rows VS
/-! ### rows of a parcel's numbers, the labels in any order -/
def rwD (r : Pc) : D := .lst [.str r.nm, li r.a r.b r.c, .int r.wl, .int r.wt, .int r.br, .lst (r.mk.map D.str)]
/-- the row's parcel -/
def Pc.nz (r : Pc) : Pc := ⟨r.nm, r.a, r.b, r.c, r.wl, r.wt, r.br, mksOf r.mk⟩
theorem mk_nz (ms : List Str) : Mk (mksOf ms) :=
  ⟨Nat.le_trans (List.length_filter_le _ labs) (by decide), fun m hm => (List.mem_filter.mp hm).1, (by decide : labs.Nodup).sublist List.filter_sublist⟩
theorem Pc.nz_g {r : Pc} (h : r.g) : r.nz.g := ⟨h.gn, h.ln, h.a, h.b, h.c, h.wl, h.wt, h.br, mk_nz _⟩
theorem nm_nz (rs : List Pc) : (rs.map Pc.nz).map Pc.nm = rs.map Pc.nm := by
  rw [List.map_map]
  rfl
theorem Hps.nz {rs : List Pc} (h : Hps rs) : Hps (rs.map Pc.nz) := by
  refine ⟨fun p hp => ?_, by rw [nm_nz]; exact h.n, by rw [List.length_map]; exact h.l⟩
  obtain ⟨r, hr, rfl⟩ := List.mem_map.mp hp
  exact Pc.nz_g (h.g r hr)
/-- Parcel(..) of good things, by value -/
theorem ve_mkPc {c : VS.Ctx} {ρ : Rho} {S : Sto} {F : D → Sto → Prop} {t : TA} {E : L2.St → XK} {CP CS : Addr}
    (h : VA c t ρ S fun ds S1 => ∃ nm a b d wl wt br mk, ds = [.str nm, sd CS a b d, .int wl, .int wt, .int br, .lst (mk.map D.str)] ∧ Pg nm a b d wl wt br mk ∧ F (pcD CP CS nm a b d wl wt br (mksOf mk)) S1) : VE c (tMakeE CP (spOf c.K (p_Pc_init CP CS)) [] E t) ρ S F :=
  ve_mk0 XOk.none (h.imp fun ds S1 ⟨nm, a, b, d, wl, wt, br, mk, e, g, q⟩ y hy => by
    subst e
    exact ⟨y, nm, a, b, d, wl, wt, br, mk, rfl, put_same, g, rfl, y, _, rfl, put_same, nofun, by rw [del_put2 hy]; exact q⟩)
/-- the labels as they are drawn -/
def mkq (x z y : Bool) : List Str := ((if x then [("alone" : Str)] else []) ++ (if z then [("upright" : Str)] else [])) ++ (if y then [("top" : Str)] else [])
theorem mkq_mk (x z y : Bool) : Mk (mkq x z y) := by cases x <;> cases y <;> cases z <;> exact ⟨by decide, by decide, by decide⟩
def p__law_pile : Pt := fun ds S G _ => ∃ (p : Addr) (n : Int), ds = [.ref p] ∧ Pu S p n ∧ n < 600000 ∧ ∀ l rs S', Hps rs → S l = none → p ≠ l → S' l = some (.lst (rs.map rwD)) → Pu S' p (n + 1000) → Ex1 p S S' → G (.ref l) S'
end LW
namespace LW
open PySem L2 C8 PySem.Spec PyProof.Rows VS
/-! ### the pile -/
section
variable {P : Program} {w : World} {K : PySem.W.Frag} {mg : Str → Option Value} {base : Heap}
theorem ok__law_pile {f : Addr} {fd : FuncData} {C_Sides C_Parcel C_Heap C_NoSide C_NoNames : Addr} {f__law_take f__law_names : Addr} {g__law_take g__law_names : FuncData}
    (F : Fd K "_law_pile" "_law_pile" s__law_pile [] f fd) (T : Tx K mg) (hsys : SysOk base)
    (c__law_take : Cf P w K mg base (L2.CX P w) 1 "_law_take" s__law_take [] a__law_take p__law_take f__law_take g__law_take)
    (c__law_names : Cf P w K mg base (L2.CX P w) 2 "_law_names" s__law_names [] a__law_names p__law_names f__law_names g__law_names) :
    FnG P w K mg base (L2.CX P w) 3 f fd a__law_pile (spOf K p__law_pile) := by
  refine VS.unbox ?_
  simp (disch := with_unfolding_all
    refine fn_val F sc__law_pile (fun ds S G Y h => ?_) (fun cdv A hgd outer s H E hr px tk po ds S G Y h => ?_)
    · obtain ⟨p, n, rfl, _⟩ := h
      rfl
    · obtain ⟨p, n, rfl, hp, hn, q⟩ := h
      refine ⟨_, (pss_cons (ps_set (i := 1) sc__law_pile.nd rfl (Or.inl rfl) (pe_ix ix_list (pe_lst (pa_cons (pe_cG c__law_take.fn hgd (hr.mono (by decide)) (by rfl) c__law_take.mg c__law_take.kp c__law_take.b .nil VS.pass0 (pa_cons (pv 0) (pa_cons pe_int pa_nil))) (pa_cons pe_int (pa_cons (pe_cG c__law_take.fn hgd (hr.mono (by decide)) (by rfl) c__law_take.mg c__law_take.kp c__law_take.b .nil VS.pass0 (pa_cons (pv 0) (pa_cons pe_int pa_nil))) (pa_cons (pe_op op_add pe_int (pe_cG c__law_take.fn hgd (hr.mono (by decide)) (by rfl) c__law_take.mg c__law_take.kp c__law_take.b .nil VS.pass0 (pa_cons (pv 0) (pa_cons pe_int pa_nil)))) pa_nil))))) (pe_cG c__law_take.fn hgd (hr.mono (by decide)) (by rfl) c__law_take.mg c__law_take.kp c__law_take.b .nil VS.pass0 (pa_cons (pv 0) (pa_cons pe_int pa_nil))) (fun _ _ => rfl)))
        (pss_cons (ps_set (i := 2) sc__law_pile.nd rfl (Or.inl rfl) (pe_cG c__law_take.fn hgd (hr.mono (by decide)) (by rfl) c__law_take.mg c__law_take.kp c__law_take.b .nil VS.pass0 (pa_cons (pv 0) (pa_cons pe_int pa_nil))))
        (pss_cons (ps_set (i := 3) sc__law_pile.nd rfl (Or.inl rfl) (pe_ix ix_list (pe_lst (pa_cons pe_int (pa_cons pe_int (pa_cons pe_int (pa_cons pe_int pa_nil))))) (pe_cG c__law_take.fn hgd (hr.mono (by decide)) (by rfl) c__law_take.mg c__law_take.kp c__law_take.b .nil VS.pass0 (pa_cons (pv 0) (pa_cons pe_int pa_nil))) (fun _ _ => rfl)))
        (pss_cons (ps_set (i := 4) sc__law_pile.nd rfl (Or.inl rfl) (pe_ix ix_list (pe_lst (pa_cons pe_int (pa_cons pe_int pa_nil))) (pe_cG c__law_take.fn hgd (hr.mono (by decide)) (by rfl) c__law_take.mg c__law_take.kp c__law_take.b .nil VS.pass0 (pa_cons (pv 0) (pa_cons pe_int pa_nil))) (fun _ _ => rfl)))
        (pss_cons (ps_par (i := 5) (j := 6) (by rfl) sc__law_pile.nd rfl rfl (by decide) rfl rfl (pa_cons pe_int (pa_cons (pe_lst pa_nil) pa_nil)) (by rfl))
        (pss_cons (ps_for po rfl (pi_list (pe_cG c__law_names.fn hgd (hr.mono (by decide)) (by rfl) c__law_names.mg c__law_names.kp c__law_names.b .nil VS.pass0 (pa_cons (pv 0) (pa_cons (pv 1) pa_nil)))) (pg_name (i := 7) sc__law_pile.nd rfl (Or.inl rfl))
        (pss_cons (ps_set (i := 8) sc__law_pile.nd rfl (Or.inl rfl) (pe_op op_add pe_int (pe_cG c__law_take.fn hgd (hr.mono (by decide)) (by rfl) c__law_take.mg c__law_take.kp c__law_take.b .nil VS.pass0 (pa_cons (pv 0) (pa_cons (pe_ix ix_list (pe_lst (pa_cons pe_int (pa_cons pe_int pa_nil))) (pe_cG c__law_take.fn hgd (hr.mono (by decide)) (by rfl) c__law_take.mg c__law_take.kp c__law_take.b .nil VS.pass0 (pa_cons (pv 0) (pa_cons pe_int pa_nil))) (fun _ _ => rfl)) pa_nil)))))
        (pss_cons (ps_set (i := 9) sc__law_pile.nd rfl (Or.inl rfl) (pe_lst (pa_cons (pv 8) (pa_cons (pe_op op_add pe_int (pe_cG c__law_take.fn hgd (hr.mono (by decide)) (by rfl) c__law_take.mg c__law_take.kp c__law_take.b .nil VS.pass0 (pa_cons (pv 0) (pa_cons pe_int pa_nil)))) (pa_cons (pe_ix ix_list (pe_lst (pa_cons pe_int (pa_cons (pv 8) (pa_cons (pe_op op_add pe_int (pe_cG c__law_take.fn hgd (hr.mono (by decide)) (by rfl) c__law_take.mg c__law_take.kp c__law_take.b .nil VS.pass0 (pa_cons (pv 0) (pa_cons pe_int pa_nil)))) pa_nil)))) (pe_cG c__law_take.fn hgd (hr.mono (by decide)) (by rfl) c__law_take.mg c__law_take.kp c__law_take.b .nil VS.pass0 (pa_cons (pv 0) (pa_cons pe_int pa_nil))) (fun _ _ => rfl)) pa_nil)))))
        (pss_cons (ps_set (i := 10) sc__law_pile.nd rfl (Or.inl rfl) (pe_ix ix_list (pe_lst (pa_cons (pe_cG c__law_take.fn hgd (hr.mono (by decide)) (by rfl) c__law_take.mg c__law_take.kp c__law_take.b .nil VS.pass0 (pa_cons (pv 0) (pa_cons (pv 3) pa_nil))) (pa_cons pe_int pa_nil))) (pe_callTy c_int1 (by rfl) T.b_int (by decide +kernel) (pa_cons (pe_cmpR op_eq (pe_cG c__law_take.fn hgd (hr.mono (by decide)) (by rfl) c__law_take.mg c__law_take.kp c__law_take.b .nil VS.pass0 (pa_cons (pv 0) (pa_cons pe_int pa_nil))) pe_int (nomark _)) pa_nil)) (fun _ _ => rfl)))
        (pss_cons (ps_set (i := 11) sc__law_pile.nd rfl (Or.inl rfl) (pe_op op_add (pv 5) (pe_ix ix_list (pe_lst (pa_cons pe_int (pa_cons pe_int (pa_cons pe_int (pa_cons (pe_cG c__law_take.fn hgd (hr.mono (by decide)) (by rfl) c__law_take.mg c__law_take.kp c__law_take.b .nil VS.pass0 (pa_cons (pv 0) (pa_cons pe_int pa_nil))) pa_nil))))) (pe_cG c__law_take.fn hgd (hr.mono (by decide)) (by rfl) c__law_take.mg c__law_take.kp c__law_take.b .nil VS.pass0 (pa_cons (pv 0) (pa_cons pe_int pa_nil))) (fun _ _ => rfl))))
        (pss_cons (ps_if (pt_cmpR op_eq (pv 2) pe_int (nomark _)) (pss_one (ps_set (i := 11) sc__law_pile.nd rfl (Or.inl rfl) (pe_ix ix_list (pe_lst (pa_cons pe_int (pa_cons pe_int (pa_cons (pe_cG c__law_take.fn hgd (hr.mono (by decide)) (by rfl) c__law_take.mg c__law_take.kp c__law_take.b .nil VS.pass0 (pa_cons (pv 0) (pa_cons (pv 3) pa_nil))) (pa_cons (pe_cG c__law_take.fn hgd (hr.mono (by decide)) (by rfl) c__law_take.mg c__law_take.kp c__law_take.b .nil VS.pass0 (pa_cons (pv 0) (pa_cons pe_int pa_nil))) pa_nil))))) (pe_cG c__law_take.fn hgd (hr.mono (by decide)) (by rfl) c__law_take.mg c__law_take.kp c__law_take.b .nil VS.pass0 (pa_cons (pv 0) (pa_cons pe_int pa_nil))) (fun _ _ => rfl))))
        pss_nil)
        (pss_cons (ps_if (pt_cmpR op_eq (pe_cG c__law_take.fn hgd (hr.mono (by decide)) (by rfl) c__law_take.mg c__law_take.kp c__law_take.b .nil VS.pass0 (pa_cons (pv 0) (pa_cons pe_int pa_nil))) pe_int (nomark _)) (pss_one (ps_set (i := 11) sc__law_pile.nd rfl (Or.inl rfl) (pe_callB (c_max2 rfl) (by rfl) T.b_max (by decide +kernel) (pa_cons pe_int (pa_cons (pe_op op_sub (pv 5) pe_int) pa_nil)))))
        pss_nil)
        (pss_cons (ps_setLc (i := 12) (own := [("_law_word", 13)]) rfl sc__law_pile.nd rfl rfl (sw_true rfl rfl rfl (by decide +kernel)) (pi_list (pe_lst (pa_cons pe_str (pa_cons pe_str pa_nil)))) (blkOk_by (own := [("_law_word", 13)]) (N := n__law_pile) (sc := defScope s__law_pile) (by decide +kernel)) (fun _ _ _ _ _ => (pg_name (i := 13) sc__law_pile.nd rfl (Or.inl rfl))) (fun _ _ _ _ _ => (pts_one (pt_cmpR op_eq (pe_cG c__law_take.fn hgd (hr.mono (by decide)) (by rfl) c__law_take.mg c__law_take.kp c__law_take.b .nil VS.pass0 (pa_cons (pv 0) (pa_cons pe_int pa_nil))) pe_int (nomark _)))) (fun _ _ _ _ _ => (pv 13)))
        (pss_cons (ps_if (PW.pt (pw_or (PW.pt (pw_and (pt_cmpR (op_eqE hr) (pv 6) (pe_lst pa_nil) (nomark _)) (pw_and1 (pt_cmpR op_eq (pe_cG c__law_take.fn hgd (hr.mono (by decide)) (by rfl) c__law_take.mg c__law_take.kp c__law_take.b .nil VS.pass0 (pa_cons (pv 0) (pa_cons pe_int pa_nil))) pe_int (nomark _))))) (pw_or1 (pt_cmpR op_eq (pe_cG c__law_take.fn hgd (hr.mono (by decide)) (by rfl) c__law_take.mg c__law_take.kp c__law_take.b .nil VS.pass0 (pa_cons (pv 0) (pa_cons (pv 4) pa_nil))) pe_int (nomark _))))) (pss_one (ps_expr (pe_bm PySem.F.plainAttrs_list PySem.F.slot_list_append PySem.F.type_list_append mt_append (pv 12) (pa_cons pe_str pa_nil))))
        pss_nil)
        (pss_cons (ps_expr (pe_bm PySem.F.plainAttrs_list PySem.F.slot_list_append PySem.F.type_list_append mt_append (pv 6) (pa_cons (pe_lst (pa_cons (pv 7) (pa_cons (pv 9) (pa_cons (pe_op op_add pe_int (pe_cG c__law_take.fn hgd (hr.mono (by decide)) (by rfl) c__law_take.mg c__law_take.kp c__law_take.b .nil VS.pass0 (pa_cons (pv 0) (pa_cons pe_int pa_nil)))) (pa_cons (pv 10) (pa_cons (pe_callB (c_min2 rfl) (by rfl) T.b_min (by decide +kernel) (pa_cons pe_int (pa_cons (pv 11) pa_nil))) (pa_cons (pv 12) pa_nil))))))) pa_nil)))
        (pss_one (ps_set (i := 5) sc__law_pile.nd rfl (Or.inl rfl) (pe_op op_add (pv 5) (pv 10))))))))))))))
        (pss_one (ps_ret (pv 6))))))))), ?_⟩
      (try dsimp only [cxOf, List.map])
      show VX _ _ [_, _, _, _, _, _, _, _, _, _, _, _, _, _] _ _
      walk_at "gr"
      refine ve_lst ?_
      walk_at "gr"
      intro t S1 t0 t1 h1 o1
      walk_at "gr"
      intro u S2 u0 u1 h2 o2
      walk_at "gr"
      intro v S3 v0 v1 h3 o3
      walk_at "gr"
      intro x S4 x0 x1 h4 o4
      have o4 := ((o1.trans o2).trans o3).trans o4
      clear h1 h2 h3 o1 o2 o3
      refine rv_ixAll (fun d => ∃ m : Int, d = .int m ∧ 0 ≤ m ∧ m ≤ 12) x0 x1 (ac ⟨_, rfl, by omega, by omega⟩ (ac ⟨_, rfl, by decide, by decide⟩ (ac ⟨_, rfl, by omega, by omega⟩ (ac ⟨_, rfl, by omega, by omega⟩ an)))) ?_
      rintro _ ⟨m, rfl, m0, m1⟩
      clear t0 t1 u0 u1 v0 v1 x0 x1
      walk_at "gr"
      intro w S5 w0 w1 h5 o5
      have o5 := o4.trans o5
      clear h4 o4
      walk_at "gr"
      refine ve_lst ?_
      walk_at "gr"
      intro x S6 x0 x1 h6 o6
      have o6 := o5.trans o6
      clear h5 o5
      refine rv_ixAll (fun d => ∃ m : Int, d = .int m ∧ 1 ≤ m ∧ m ≤ 100001) x0 x1 (ac ⟨_, rfl, by decide, by decide⟩ (ac ⟨_, rfl, by decide, by decide⟩ (ac ⟨_, rfl, by decide, by decide⟩ (ac ⟨_, rfl, by decide, by decide⟩ an)))) ?_
      rintro _ ⟨gt, rfl, g0, g1⟩
      clear x0 x1
      walk_at "gr"
      refine ve_lst ?_
      walk_at "gr"
      intro x S7 x0 x1 h7 o7
      have o7 := o6.trans o7
      clear h6 o6
      refine rv_ixAll (fun d => ∃ m : Int, d = .int m ∧ 1 ≤ m ∧ m ≤ 60) x0 x1 (ac ⟨_, rfl, by decide, by decide⟩ (ac ⟨_, rfl, by decide, by decide⟩ an)) ?_
      rintro _ ⟨tp, rfl, p0, p1⟩
      clear x0 x1
      walk_at "gr"
      refine ve_lstc ?_
      walk_at "gr"
      intro fl hfl
      have npf := h7.ne hfl
      have h8 : Pu (put S7 fl (.lst [])) p (n + 10) := (h7.put hfl).mono (by omega)
      have cf : (put S7 fl (.lst [])) fl = some (.lst []) := put_same
      have o8 : Ex1 p S (put S7 fl (.lst [])) := o7.ex1.new hfl
      have sf : S fl = none := by rw [← o7 fl (Ne.symm npf)]; exact hfl
      generalize put S7 fl (.lst []) = S8 at h8 cf o8 ⊢
      clear h7 o7 hfl
      walk_at "gr"
      refine vx_for (vi_list ?_)
      walk_at "gr"
      refine ⟨p, _, m, rfl, h8, by omega, m0, m1, fun zs S9 lz hz nz h9 o9 => ?_⟩
      have cf := o9 _ _ (Ne.symm npf) cf
      have o9 := o8.trans o9
      clear h8 o8
      walk_at "gr"
      refine ⟨_, .v, fun i ρ2 S2 => ∃ (rs : List Pc) (ab : Int) (x7 x8 x9 x10 x11 x12 x13 : Option D), ρ2 = [some (.ref p), some (.int m), some (.int w), some (.int gt), some (.int tp), some (.int ab), some (.ref fl), x7, x8, x9, x10, x11, x12, x13] ∧ 0 ≤ ab ∧ S2 fl = some (.lst (rs.map rwD)) ∧ Hps rs ∧ rs.map Pc.nm = zs.take i ∧ Pu S2 p (n + 40 + 60 * (i : Nat)) ∧ Ex1 p S S2,
        ⟨[], 0, _, _, _, _, _, _, _, rfl, Int.le_refl _, cf, ⟨nofun, by simp, by decide⟩, rfl, h9.mono (by omega), o9⟩, ?_, ?_⟩
      · clear h9 o9 cf
        rintro i d ρ2 S2 hd ⟨rs, ab, x7, x8, x9, x10, x11, x12, x13, rfl, ab0, cf, hrs, hpm, h9, o9⟩
        rw [List.getElem?_map] at hd
        cases ez : zs[i]? with
        | none => rw [ez] at hd; cases hd
        | some z =>
          rw [ez] at hd
          cases hd
          have hi : i < zs.length := (List.getElem?_eq_some_iff.mp ez).1
          have tk : zs.take (i + 1) = zs.take i ++ [z] := by rw [List.take_succ, ez]; rfl
          have lf : rs.length = i := by
            have := congrArg List.length hpm
            rw [List.length_map, List.length_take] at this
            omega
          walk_at "gr"
          refine ve_lst ?_
          walk_at "gr"
          intro t S3 t0 t1 h3 o3
          refine rv_ixAll (fun d => ∃ m : Int, d = .int m ∧ 1 ≤ m ∧ m ≤ 100000) t0 t1 (ac ⟨_, rfl, by decide, by decide⟩ (ac ⟨_, rfl, by decide, by decide⟩ an)) ?_
          rintro _ ⟨g, rfl, g2, g3⟩
          walk_at "gr"
          intro sd S4 s0 s1 h4 o4
          have o4 := o3.trans o4
          clear h3 o3 t0 t1
          walk_at "gr"
          refine ve_lst ?_
          walk_at "gr"
          intro s2 S5 s20 s21 h5 o5
          walk_at "gr"
          refine ve_lst ?_
          walk_at "gr"
          intro t S6 t0 t1 h6 o6
          walk_at "gr"
          intro u S7 u0 u1 h7 o7
          have o7 := ((o4.trans o5).trans o6).trans o7
          clear h4 h5 h6 o4 o5 o6
          refine rv_ixAll (fun d => ∃ m : Int, d = .int m ∧ 1 ≤ m ∧ m ≤ 100000) u0 u1 (ac ⟨_, rfl, by decide, by decide⟩ (ac ⟨_, rfl, by omega, by omega⟩ (ac ⟨_, rfl, by omega, by omega⟩ an))) ?_
          rintro _ ⟨s3, rfl, s30, s31⟩
          clear t0 t1 u0 u1
          walk_at "gr"
          refine ve_lst ?_
          walk_at "gr"
          intro t S8 t0 t1 h8 o8
          walk_at "gr"
          intro u S9 u0 u1 h9' o9'
          have o9' := (o7.trans o8).trans o9'
          clear h7 h8 o7 o8
          walk_at "gr"
          refine rv_ixAll (fun d => ∃ m : Int, d = .int m ∧ 0 ≤ m ∧ m ≤ 100000) (by split <;> decide) (by split <;> simp) (ac ⟨_, rfl, by omega, by omega⟩ (ac ⟨_, rfl, by decide, by decide⟩ an)) ?_
          rintro _ ⟨wt, rfl, wt0, wt1⟩
          clear t0 t1 u0 u1
          walk_at "gr"
          refine ve_lst ?_
          walk_at "gr"
          intro t S10 t0 t1 h10 o10
          walk_at "gr"
          intro u S11 u0 u1 h11 o11
          have o11 := (o9'.trans o10).trans o11
          clear h9' h10 o9' o10
          refine rv_ixAll (fun d => ∃ m : Int, d = .int m ∧ 0 ≤ m) u0 u1 (ac ⟨_, rfl, by decide⟩ (ac ⟨_, rfl, by decide⟩ (ac ⟨_, rfl, by decide⟩ (ac ⟨_, rfl, by omega⟩ an)))) ?_
          rintro _ ⟨b0, rfl, b00⟩
          clear t0 t1 u0 u1
          refine rv_II ?_
          refine vg_name ?_
          refine vx_join (fun ρ2 S12 => ∃ br : Int, 0 ≤ br ∧ Pu S12 p (n + 40 + 60 * (i : Nat) + 12) ∧ Off p S2 S12 ∧ ρ2 = [some (.ref p), some (.int m), some (.int w), some (.int gt), some (.int tp), some (.int ab), some (.ref fl), some (.str z), some (.int (1 + sd)), some (.lst [.int (1 + sd), .int (1 + s2), .int s3]), some (.int wt), some (.int br), x12, x13]) ?_ ?_
          · walk_at "gr"
            refine ⟨fun _ => ?_, fun _ => ?_⟩
            · walk_at "gr"
              refine ve_lst ?_
              walk_at "gr"
              intro t S12 t0 t1 h12 o12
              walk_at "gr"
              intro u S13 u0 u1 h13 o13
              walk_at "gr"
              intro v S14 v0 v1 h14 o14
              refine rv_ixAll (fun d => ∃ m : Int, d = .int m ∧ 0 ≤ m) v0 v1 (ac ⟨_, rfl, by decide⟩ (ac ⟨_, rfl, by decide⟩ (ac ⟨_, rfl, t0⟩ (ac ⟨_, rfl, u0⟩ an)))) ?_
              rintro _ ⟨b1, rfl, b10⟩
              refine vg_name ?_
              exact ⟨b1, b10, h14.mono (by omega), ((o11.trans o12).trans o13).trans o14, rfl⟩
            · walk_at "gr"
              exact ⟨_, by omega, h11.mono (by omega), o11, rfl⟩
          clear h11 o11
          rintro _ S12 ⟨br, br0, h12, o12, rfl⟩
          refine vx_join (fun ρ2 S12 => ∃ br : Int, 0 ≤ br ∧ Pu S12 p (n + 40 + 60 * (i : Nat) + 13) ∧ Off p S2 S12 ∧ ρ2 = [some (.ref p), some (.int m), some (.int w), some (.int gt), some (.int tp), some (.int ab), some (.ref fl), some (.str z), some (.int (1 + sd)), some (.lst [.int (1 + sd), .int (1 + s2), .int s3]), some (.int wt), some (.int br), x12, x13]) ?_ ?_
          · walk_at "gr"
            intro t S13 t0 t1 h13 o13
            walk_at "gr"
            refine ⟨fun _ => ?_, fun _ => ?_⟩
            · walk_at "gr"
              exact ⟨_, by omega, h13.mono (by omega), o12.trans o13, rfl⟩
            · walk_at "gr"
              exact ⟨br, br0, h13.mono (by omega), o12.trans o13, rfl⟩
          clear h12 o12 br0 br
          rintro _ S12 ⟨br, br0, h12, o12, rfl⟩
          walk_at "gr"
          refine ve_lcc (vi_list ?_)
          walk_at "gr"
          refine ve_lst ?_
          walk_at "gr"
          have h12 : Pu S12 p (n + 40 + 60 * (i : Nat) + 13 + ((0 : Nat) : Int)) := h12.mono (by omega)
          refine ⟨_, .v, by show 2 ≤ 100000; decide, fun j acc S13 => ∃ x z, acc = (mkq x z false).map D.str ∧ (j ≤ 0 → x = false) ∧ (j ≤ 1 → z = false) ∧ Pu S13 p (n + 40 + 60 * (i : Nat) + 13 + (j : Nat)) ∧ Off p S2 S13, ⟨false, false, rfl, fun _ => rfl, fun _ => rfl, h12, o12⟩, ?_, ?_⟩
          · rintro j d acc S13 hd ⟨x, z', rfl, hx, hz', h13, o13⟩ _
            have hj : j < 2 := (List.getElem?_eq_some_iff.mp hd).1
            walk_at "gr"
            intro t S14 t0 t1 h14 o14
            have o14 := o13.trans o14
            match j, hd with
            | 0, hd =>
              cases hd
              obtain rfl := hx (Nat.le_refl _)
              obtain rfl := hz' (by omega)
              walk_at "gr"
              refine ⟨fun e => ?_, fun e => ?_⟩
              · walk_at "gr"
                exact ⟨true, false, rfl, fun z => by omega, fun _ => rfl, h14.mono (by omega), o14⟩
              · exact ⟨false, false, rfl, fun z => by omega, fun _ => rfl, h14.mono (by omega), o14⟩
            | 1, hd =>
              cases hd
              obtain rfl := hz' (by omega)
              walk_at "gr"
              refine ⟨fun e => ?_, fun e => ?_⟩
              · walk_at "gr"
                exact ⟨x, true, by cases x <;> rfl, fun z => by omega, fun z => by omega, h14.mono (by omega), o14⟩
              · exact ⟨x, false, rfl, fun z => by omega, fun z => by omega, h14.mono (by omega), o14⟩
            | k + 2, hd => cases hd
          clear h12 o12
          rintro acc S13 ⟨x, z', rfl, hx, hz', h13, o13⟩ _ la hla
          have h13 : Pu S13 p (n + 40 + 60 * (i : Nat) + 15) := h13.mono (by show n + 40 + 60 * (i : Nat) + 13 + ((2 : Nat) : Int) ≤ _; omega)
          clear hx hz'
          have npa := h13.ne hla
          have cf := (o13 fl (Ne.symm npf)).trans cf
          have nfa : fl ≠ la := ne_at cf hla
          have h14 := h13.put (d := .lst ((mkq x z' false).map D.str)) hla
          have ca : (put S13 la (.lst ((mkq x z' false).map D.str))) la = some (.lst ((mkq x z' false).map D.str)) := put_same
          have cf : (put S13 la (.lst ((mkq x z' false).map D.str))) fl = some (.lst (rs.map rwD)) := (put_ne nfa).trans cf
          have o14 : Ex1 p S (put S13 la (.lst ((mkq x z' false).map D.str))) := (o9.trans o13.ex1).new hla
          have sa : S2 la = none := by rw [← o13 la (Ne.symm npa)]; exact hla
          have sl : S la = none := by
            cases hS : S la with
            | none => rfl
            | some e =>
              have := o9 la e (Ne.symm npa) hS
              rw [sa] at this
              cases this
          generalize put S13 la (.lst ((mkq x z' false).map D.str)) = S14 at h14 ca cf o14 ⊢
          clear h13 o13 hla
          refine vg_name ?_
          refine vx_join (fun ρ2 S15 => ∃ y : Bool, Pu S15 p (n + 40 + 60 * (i : Nat) + 17) ∧ Ex1 p S S15 ∧ S15 la = some (.lst ((mkq x z' y).map D.str)) ∧ S15 fl = some (.lst (rs.map rwD)) ∧ ρ2 = [some (.ref p), some (.int m), some (.int w), some (.int gt), some (.int tp), some (.int ab), some (.ref fl), some (.str z), some (.int (1 + sd)), some (.lst [.int (1 + sd), .int (1 + s2), .int s3]), some (.int wt), some (.int br), some (.ref la), x13]) ?_ ?_
          · refine vx_ifJ (fun _ S15 => Pu S15 p (n + 40 + 60 * (i : Nat) + 17) ∧ Ex1 p S S15 ∧ S15 la = some (.lst ((mkq x z' false).map D.str)) ∧ S15 fl = some (.lst (rs.map rwD))) ?_ (fun S15 h => ?_) (fun S15 h => ?_)
            · walk_at "gr"
              refine ve_lst ?_
              walk_at "gr"
              cases rs with
              | nil =>
                walk_at "gr"
                intro u S16 u0 u1 h16 o16
                have ca := (o16 la (Ne.symm npa)).trans ca
                have cf := (o16 fl (Ne.symm npf)).trans cf
                have o16 := o14.trans o16.ex1
                walk_at "gr"
                refine ⟨fun _ => ⟨h16.mono (by omega), o16, ca, cf⟩, fun _ => ?_⟩
                walk_at "gr"
                intro t S15 t0 t1 h15 o15
                walk_at "gr"
                exact ⟨h15.mono (by omega), o16.trans o15.ex1, (o15 la (Ne.symm npa)).trans ca, (o15 fl (Ne.symm npf)).trans cf⟩
              | cons r0 rs0 =>
                walk_at "gr"
                intro t S15 t0 t1 h15 o15
                walk_at "gr"
                exact ⟨h15.mono (by omega), o14.trans o15.ex1, (o15 la (Ne.symm npa)).trans ca, (o15 fl (Ne.symm npf)).trans cf⟩
            · obtain ⟨h15, o15, ca, cf⟩ := h
              walk_at "gr"
              refine rm_append ca (by cases x <;> cases z' <;> (have := szl; simp [mkq] <;> omega)) ?_
              refine ⟨true, h15.wr npa, o15.wr2 sl, by rw [put_same]; cases x <;> cases z' <;> rfl, (put_ne nfa).trans cf, rfl⟩
            · obtain ⟨h15, o15, ca, cf⟩ := h
              walk_at "gr"
              exact ⟨false, h15, o15, ca, cf, rfl⟩
          clear h14 o14 ca cf
          rintro _ S15 ⟨y, h15, o15, ca, cf, rfl⟩
          refine vx_freeze 12 rfl ca ?_
          have h16 : Pu (VS.del S15 la) p (n + 40 + 60 * (i : Nat) + 17) := by
            obtain ⟨x, y, z, e, r⟩ := h15
            exact ⟨x, y, z, (VS.del_ne npa).trans e, r⟩
          have o16 := o15.dl sl
          have cf : (VS.del S15 la) fl = _ := (VS.del_ne nfa).trans cf
          generalize VS.del S15 la = S16 at h16 o16 cf ⊢
          clear h15 o15 ca
          walk_at "gr"
          refine ve_lst ?_
          walk_at "gr"
          intro wl S17 w0' w1' h17 o17
          have cf := (o17 fl (Ne.symm npf)).trans cf
          have o17 := o16.trans o17.ex1
          walk_at "gr"
          refine rm_append cf (by rw [List.length_map]; have := szl; omega) ?_
          walk_at "gr"
          have hnm := hz z (List.mem_of_getElem? ez)
          obtain ⟨r, er⟩ : ∃ r : Pc, r = ⟨z, 1 + sd, 1 + s2, s3, 1 + wl, wt, if br < 100000 then br else 100000, mkq x z' y⟩ := ⟨_, rfl⟩
          have ed : rwD r = D.lst [D.str z, D.lst [D.int (1 + sd), D.int (1 + s2), D.int s3], D.int (1 + wl), D.int wt, D.int (if br < 100000 then br else 100000), D.lst (List.map D.str (mkq x z' y))] := by rw [er]; rfl
          have en : r.nm = z := by rw [er]
          have g : r.g := by
            rw [er]
            refine ⟨hnm.ok, hnm.1.1, ?_, ?_, ⟨s30, s31⟩, ?_, ⟨wt0, wt1⟩, ?_, mkq_mk x z' y⟩
            · show In1 (1 + sd); unfold In1; omega
            · show In1 (1 + s2); unfold In1; omega
            · show 1 ≤ 1 + wl ∧ 1 + wl ≤ 1000; omega
            · show 0 ≤ (if br < 100000 then br else 100000) ∧ (if br < 100000 then br else 100000) ≤ 100000
              split <;> omega
          rw [← ed]
          have em : rs.map rwD ++ [rwD r] = (rs ++ [r]).map rwD := by rw [List.map_append]; rfl
          rw [em]
          have nn : r.nm ∉ rs.map Pc.nm := by
            rw [en, hpm]
            intro hzm
            have hn2 : (zs.take (i + 1)).Nodup := nz.sublist (List.take_sublist _ _)
            rw [tk, List.nodup_append] at hn2
            exact hn2.2.2 _ hzm _ (List.mem_singleton.mpr rfl) rfl
          refine ⟨rs ++ [r], ab + wt, _, _, _, _, _, _, _, rfl, by omega, put_same, hrs.app g (by omega) nn, ?_, (h17.wr npf).mono (by omega), o17.wr2 sf⟩
          rw [tk, List.map_append, hpm, ← en]
          rfl
      · rintro ρ2 S2 ⟨rs, ab, x7, x8, x9, x10, x11, x12, x13, rfl, ab0, cf, hrs, hpm, h9, o9⟩
        rw [List.length_map] at h9
        walk_at "gr"
        exact q fl rs _ hrs sf npf cf (h9.mono (by omega)) o9) only [↓VS.box]
end
end LW
namespace LW
open PySem L2 C8 PySem.Spec PyProof.Rows VS
/-! ### rows by names; the fault that is due -/
theorem cut_drop (xs : List D) {t : Nat} (h : t ≤ xs.length) : VS.cutD xs (some (t : Int)) none = xs.drop t := by
  show (xs.drop (HT.sIx xs.length 0 (some (t : Int)))).take (xs.length - HT.sIx xs.length 0 (some (t : Int))) = _
  rw [HT.sIx_nat, Nat.min_eq_left h]
  exact List.take_of_length_le (by rw [List.length_drop]; omega)
end LW
namespace LW
open PySem L2 C8 PySem.Spec PyProof.Rows VS
/-! ### a parcel put at the end, or ahead of one that is there -/
def p_Hp_putA (CH CP CS : Addr) : Pt := fun ds S G _ => ∃ (h l : Addr) (ps : List Pc) (p : Pc) (i : Nat) (a : D), ds = [.ref h, p.d CP CS, a] ∧ HpS S CH CP CS h l ps ∧ ps.length < 12 ∧ p.nm ∉ ps.map Pc.nm ∧ ((a = .non ∧ i = ps.length) ∨ ∃ q, a = .str q.nm ∧ Frs ps i q) ∧ G .non (put S l (.lst ((ps.take i ++ [p] ++ ps.drop i).map (Pc.d CP CS))))
theorem put_end {CH CP CS : Addr} {ds : List D} {S : Sto} {G : D → Sto → Prop} {Y : Addr → List (Str × D) → Sto → Prop} (h : p_Hp_put CH CP CS ds S G Y) : p_Hp_putA CH CP CS ds S G Y := by
  obtain ⟨h, l, ps, p, rfl, hs, hl, hn, q⟩ := h
  refine ⟨h, l, ps, p, ps.length, .non, rfl, hs, hl, hn, .inl ⟨rfl, rfl⟩, ?_⟩
  rw [List.take_length, List.drop_length, List.append_nil]
  exact q
section
variable {P : Program} {w : World} {K : PySem.W.Frag} {mg : Str → Option Value} {base : Heap}
theorem ok_Heap_put {f : Addr} {fd : FuncData} {C_Sides C_Parcel C_Heap C_NoSide C_NoNames : Addr} {f_Heap_names f_Parcel_name f_Heap_place_of : Addr} {g_Heap_names g_Parcel_name g_Heap_place_of : FuncData}
    (F : Fd K "put" "Heap.put" s_Heap_put [.non] f fd) (T : Tx K mg) (hsys : SysOk base)
    (c_Heap_names : Mf P w K mg base 2 C_Heap "names" "Heap.names" s_Heap_names [] a_Heap_names (p_Hp_names C_Heap C_Parcel C_Sides) f_Heap_names g_Heap_names)
    (c_Parcel_name : Mf P w K mg base 1 C_Parcel "name" "Parcel.name" s_Parcel_name [] a_Parcel_name (p_Pc_name C_Parcel C_Sides) f_Parcel_name g_Parcel_name)
    (k_Heap : Kl_Heap K mg C_Heap)
    (k_Parcel : Kl_Parcel K mg C_Parcel)
    (k_Sides : Kl_Sides K mg C_Sides)
    (c_Heap_place_of : Mf P w K mg base 2 C_Heap "place_of" "Heap.place_of" s_Heap_place_of [] a_Heap_place_of (p_Hp_place C_Heap C_Parcel C_Sides) f_Heap_place_of g_Heap_place_of) :
    FnG P w K mg base (L2.CX P w) 3 f fd a_Heap_put (spOf K (p_Hp_putA C_Heap C_Parcel C_Sides)) := by
  refine VS.unbox ?_
  simp (disch := with_unfolding_all
    have kc_Heap := k_Heap.ins.cl
    have ka_Heap_held := k_Heap.a_held
    have ka_Heap_told := k_Heap.a_told
    have ka_Heap_kind := k_Heap.a_kind
    have kc_Parcel := k_Parcel.ins.cl
    have ka_Parcel_called := k_Parcel.a_called
    have ka_Parcel_outside := k_Parcel.a_outside
    have ka_Parcel_thick := k_Parcel.a_thick
    have ka_Parcel_heavy := k_Parcel.a_heavy
    have ka_Parcel_strong := k_Parcel.a_strong
    have ka_Parcel_marks := k_Parcel.a_marks
    have ka_Parcel_told := k_Parcel.a_told
    have ka_Parcel_names := k_Parcel.a_names
    have kc_Sides := k_Sides.ins.cl
    have ka_Sides_three := k_Sides.a_three
    refine fn_val F sc_Heap_put (fun ds S G Y h => ?_) (fun cdv A hgd outer s H E hr px tk po ds S G Y h => ?_)
    · obtain ⟨hh, l, ps, p, i, a, rfl, _⟩ := h
      rfl
    · obtain ⟨hh, l, ps, p, i, a, rfl, ⟨h1, h2⟩, hl, hn, ha, q⟩ := h
      refine ⟨_, (pss_cons (ps_if (pt_not (pt_val (pe_callB c_isiZ (by rfl) T.b_isinstance (by decide +kernel) (pa_cons (pv 1) (pa_cons (pe_gc (v := .ref C_Parcel) (by rfl) ⟨_, k_Parcel.at_, rfl⟩) pa_nil))))) (pss_one ps_nev)
        pss_nil)
        (pss_cons (ps_if (pt_cmpR op_in_seq (pe_mG0 (pv 1) c_Parcel_name.cl c_Parcel_name.me c_Parcel_name.fn hgd (hr.mono (by decide)) c_Parcel_name.b .nil VS.pass0) (pe_mG0 (pv 0) c_Heap_names.cl c_Heap_names.me c_Heap_names.fn hgd (hr.mono (by decide)) c_Heap_names.b .nil VS.pass0) (by rfl)) (pss_one ps_nev)
        pss_nil)
        (pss_cons (ps_set (i := 3) sc_Heap_put.nd rfl (Or.inl rfl) (pe_callB c_len (by rfl) T.b_len (by decide +kernel) (pa_cons (pe_fld (pv 0) rfl) pa_nil)))
        (pss_cons (ps_if (pt_cmpR op_notNo (pv 2) pe_non (nomark _)) (pss_one (ps_set (i := 3) sc_Heap_put.nd rfl (Or.inl rfl) (pe_mG (pv 0) c_Heap_place_of.cl c_Heap_place_of.me c_Heap_place_of.fn hgd (hr.mono (by decide)) c_Heap_place_of.b .nil VS.pass0 (pa_cons (pv 2) pa_nil))))
        pss_nil)
        (pss_cons (ps_if (pt_cmpR op_eq (pe_callB c_len (by rfl) T.b_len (by decide +kernel) (pa_cons (pe_fld (pv 0) rfl) pa_nil)) (pe_gc (by rfl) T.c_MOST_PARCELS) (nomark _)) (pss_one ps_nev)
        pss_nil)
        (pss_one (ps_expr (pe_bm PySem.F.plainAttrs_list PySem.F.slot_list_insert PySem.F.type_list_insert mt_insertV (pe_fld (pv 0) rfl) (pa_cons (pv 3) (pa_cons (pv 1) pa_nil)))))))))), ?_⟩
      (try dsimp only [cxOf, List.map])
      show VX _ _ [_, _, _, _] _ _
      unfold Pc.d
      walk_at "ga"
      refine rc_isiO (.i .v k_Parcel.ins) k_Parcel.ins.me ?_
      walk_at "ga"
      refine ⟨p.nm, p.a, p.b, p.c, p.wl, p.wt, p.br, p.mk, rfl, ?_⟩
      walk_at "ga"
      refine ⟨hh, l, ps, rfl, ⟨h1, h2⟩, by omega, ?_⟩
      refine rv_in (.l .v) rfl (flat_strs _) ?_
      rw [inD_strs, decide_eq_false hn]
      walk_at "ga"
      rcases ha with ⟨rfl, rfl⟩ | ⟨q0, rfl, fr⟩
      · walk_at "ga"
        refine brYn (fun z => by rw [List.length_map] at z; omega) ?_
        walk_at "ga"
        refine rm_insert (n := ps.length) h2 (by rw [List.length_map]) (by rw [List.length_map]; exact Nat.le_refl _) (by rw [List.length_map]; have := szl; omega) ?_
        rw [List.map_append, List.map_append, List.map_take, List.map_drop] at q
        exact q
      · walk_at "ga"
        refine ⟨hh, l, ps, i, q0, rfl, ⟨h1, h2⟩, by omega, fr, ?_⟩
        have hi := (List.getElem?_eq_some_iff.mp fr.1).1
        walk_at "ga"
        refine brYn (fun z => by rw [List.length_map] at z; omega) ?_
        walk_at "ga"
        refine rm_insert (n := i) h2 rfl (by rw [List.length_map]; omega) (by rw [List.length_map]; have := szl; omega) ?_
        rw [List.map_append, List.map_append, List.map_take, List.map_drop] at q
        exact q) only [↓VS.box]
end
end LW
namespace LW
open PySem L2 C8 PySem.Spec PyProof.Rows VS
/-! ### a heap of the rows -/
def p_heapP (CH CP CS : Addr) : Pt := fun ds S G _ => ∃ rs : List Pc, ds = [.lst (rs.map rwD)] ∧ Hps rs ∧ ∀ h l S', S h = none → S l = none → Ext S S' → HpS S' CH CP CS h l (rs.map Pc.nz) → G (.ref h) S'
local macro_rules | `(tactic| walk_at "gp") => `(tactic| with_reducible refine ve_mkPc ?_)
section
variable {P : Program} {w : World} {K : PySem.W.Frag} {mg : Str → Option Value} {base : Heap}
theorem ok__law_heap {f : Addr} {fd : FuncData} {C_Sides C_Parcel C_Heap C_NoSide C_NoNames : Addr} {f_Sides f_Parcel f_Heap f_Heap_put : Addr} {g_Sides g_Parcel g_Heap g_Heap_put : FuncData}
    (F : Fd K "_law_heap" "_law_heap" s__law_heap [] f fd) (T : Tx K mg) (hsys : SysOk base)
    (c_Sides : Kf P w K mg base 3 "Sides" C_Sides "Sides.__init__" s_Sides___init__ [] a_Sides___init__ (p_Sides_init K C_Sides C_NoSide) f_Sides g_Sides)
    (c_Parcel : Kf P w K mg base 3 "Parcel" C_Parcel "Parcel.__init__" s_Parcel___init__ [.int 1, .int 0, .int 0, .non] a_Parcel___init__ (p_Pc_init C_Parcel C_Sides) f_Parcel g_Parcel)
    (c_Heap : Kf P w K mg base 1 "Heap" C_Heap "Heap.__init__" s_Heap___init__ [] a_Heap___init__ (p_Hp_init C_Heap) f_Heap g_Heap)
    (c_Heap_put : Mf P w K mg base 3 C_Heap "put" "Heap.put" s_Heap_put [.non] a_Heap_put (p_Hp_putA C_Heap C_Parcel C_Sides) f_Heap_put g_Heap_put)
    (d_Heap_put2 : Bd K g_Heap_put a_Heap_put [.non])
    (k_Heap : Kl_Heap K mg C_Heap)
    (k_Parcel : Kl_Parcel K mg C_Parcel)
    (k_Sides : Kl_Sides K mg C_Sides) :
    FnG P w K mg base (L2.CX P w) 5 f fd a__law_heap (spOf K (p_heapP C_Heap C_Parcel C_Sides)) := by
  refine VS.unbox ?_
  simp (disch := with_unfolding_all
    have kc_Heap := k_Heap.ins.cl
    have ka_Heap_held := k_Heap.a_held
    have ka_Heap_told := k_Heap.a_told
    have ka_Heap_kind := k_Heap.a_kind
    have kc_Parcel := k_Parcel.ins.cl
    have ka_Parcel_called := k_Parcel.a_called
    have ka_Parcel_outside := k_Parcel.a_outside
    have ka_Parcel_thick := k_Parcel.a_thick
    have ka_Parcel_heavy := k_Parcel.a_heavy
    have ka_Parcel_strong := k_Parcel.a_strong
    have ka_Parcel_marks := k_Parcel.a_marks
    have ka_Parcel_told := k_Parcel.a_told
    have ka_Parcel_names := k_Parcel.a_names
    have kc_Sides := k_Sides.ins.cl
    have ka_Sides_three := k_Sides.a_three
    refine fn_val F sc__law_heap (fun ds S G Y h => ?_) (fun cdv A hgd outer s H E hr px tk po ds S G Y h => ?_)
    · obtain ⟨rs, rfl, _⟩ := h
      rfl
    · obtain ⟨rs, rfl, hrs, q⟩ := h
      refine ⟨_, (pss_cons (ps_set (i := 1) sc__law_heap.nd rfl (Or.inl rfl) (pe_kG0 c_Heap.mk_ c_Heap.fn hgd (hr.mono (by decide)) (by rfl) c_Heap.mg  c_Heap.b .nil VS.pass0))
        (pss_cons (ps_for po rfl (pi_list (pv 0)) (pg_name (i := 2) sc__law_heap.nd rfl (Or.inl rfl))
        (pss_cons (ps_set (i := 3) sc__law_heap.nd rfl (Or.inl rfl) (pe_kG c_Sides.mk_ c_Sides.fn hgd (hr.mono (by decide)) (by rfl) c_Sides.mg  c_Sides.b .nil VS.pass0 (pa_cons (pe_ix ix_list (pe_ix ix_list (pv 2) pe_int (fun _ _ => rfl)) pe_int (fun _ _ => rfl)) (pa_cons (pe_ix ix_list (pe_ix ix_list (pv 2) pe_int (fun _ _ => rfl)) pe_int (fun _ _ => rfl)) (pa_cons (pe_ix ix_list (pe_ix ix_list (pv 2) pe_int (fun _ _ => rfl)) pe_int (fun _ _ => rfl)) pa_nil)))))
        (pss_one (ps_expr (pe_mG (pv 1) c_Heap_put.cl c_Heap_put.me c_Heap_put.fn hgd (hr.mono (by decide)) d_Heap_put2.b d_Heap_put2.v VS.pass0 (pa_cons (pe_kG c_Parcel.mk_ c_Parcel.fn hgd (hr.mono (by decide)) (by rfl) c_Parcel.mg  c_Parcel.b .nil VS.pass0 (pa_cons (pe_ix ix_list (pv 2) pe_int (fun _ _ => rfl)) (pa_cons (pv 3) (pa_cons (pe_ix ix_list (pv 2) pe_int (fun _ _ => rfl)) (pa_cons (pe_ix ix_list (pv 2) pe_int (fun _ _ => rfl)) (pa_cons (pe_ix ix_list (pv 2) pe_int (fun _ _ => rfl)) (pa_cons (pe_ix ix_list (pv 2) pe_int (fun _ _ => rfl)) pa_nil))))))) pa_nil))))))
        (pss_one (ps_ret (pv 1))))), ?_⟩
      (try dsimp only [cxOf, List.map])
      show VX _ _ [_, _, _, _] _ _
      refine vx_seq (vx_asg ?_)
      refine ve_mkHp ?_
      refine va_nil ?_
      refine ⟨rfl, fun h' l' S1 nh nl x1 a1 a2 => ?_⟩
      walk_at "gr"
      refine vx_for (vi_list ?_)
      walk_at "gr"
      refine ⟨_, .v, fun k ρ2 S2 => Ext S S2 ∧ HpS S2 C_Heap C_Parcel C_Sides h' l' ((rs.take k).map Pc.nz) ∧ ∃ x2 x3, ρ2 = [some (.lst (rs.map rwD)), some (.ref h'), x2, x3], ⟨x1, ⟨a1, a2⟩, _, _, rfl⟩, ?_, ?_⟩
      · rintro k d ρ2 S2 hd ⟨x2, hs2, x3, x4, rfl⟩
        rw [List.getElem?_map] at hd
        cases e : rs[k]? with
        | none => rw [e] at hd; cases hd
        | some r =>
          rw [e] at hd
          cases hd
          have hk : k < rs.length := (List.getElem?_eq_some_iff.mp e).1
          have h12 := hrs.l
          have tk : rs.take (k + 1) = rs.take k ++ [r] := by rw [List.take_succ, e]; rfl
          have c1 := hs2.1
          walk_at "gr"
          have g := hrs.g r (List.mem_of_getElem? e)
          refine ⟨r.a, r.b, r.c, rfl, g.a, g.b, g.c, ?_⟩
          walk_at "gr"
          refine ve_mt (dds := [.non]) (XOk.none (E := noE)) (fun _ _ => .cons .non .nil) ?_
          walk_at "gr"
          refine ⟨r.nm, r.a, r.b, r.c, r.wl, r.wt, r.br, r.mk, rfl, g, ?_⟩
          walk_at "gr"
          refine put_end ?_
          refine ⟨h', l', (rs.take k).map Pc.nz, r.nz, rfl, hs2, ?_, ?_, ?_⟩
          · rw [List.length_map, List.length_take]
            omega
          · have hn := hrs.n
            have es : rs.map Pc.nm = (rs.take (k + 1)).map Pc.nm ++ (rs.drop (k + 1)).map Pc.nm := by rw [← List.map_append, List.take_append_drop]
            rw [es, tk, List.map_append, List.nodup_append] at hn
            have hn := hn.1
            rw [List.nodup_append] at hn
            rw [nm_nz]
            exact fun z => hn.2.2 _ z _ (List.mem_singleton.mpr rfl) rfl
          · refine ⟨Ext.wr nl x2, ?_, _, _, rfl⟩
            rw [tk, List.map_append (f := Pc.nz)]
            exact hs2.set
      · rintro ρ2 S2 ⟨x2, hs2, x3, x4, rfl⟩
        rw [List.length_map, List.take_length] at hs2
        walk_at "gr"
        exact q h' l' S2 nh nl x2 hs2) only [↓VS.box]
end
end LW
namespace LW
open PySem L2 C8 PySem.Spec PyProof.Rows VS
/-! ### some of the rows' names -/
def p__law_some : Pt := fun ds S G _ => ∃ (p l : Addr) (n : Int) (rs : List Pc), ds = [.ref p, .ref l] ∧ S l = some (.lst (rs.map rwD)) ∧ Hps rs ∧ Pu S p n ∧ n < 400000 ∧
  ∀ (ws : List Str) (S' : Sto), (∀ z ∈ ws, z ∈ rs.map Pc.nm) → ws.Nodup → Pu S' p (n + 300) → Ex1 p S S' → G (.lst (ws.map D.str)) S'
theorem Pu.dl {S : Sto} {p l : Addr} {n : Int} (h : Pu S p n) (ne : p ≠ l) : Pu (VS.del S l) p n := by
  obtain ⟨x, y, z, e, r⟩ := h
  exact ⟨x, y, z, (VS.del_ne ne).trans e, r⟩
theorem swap_perm {ws : List Str} {k : Nat} {a b : Str} (ha : ws[k]? = some a) (hb : ws[k + 1]? = some b) : ((ws.set k b).set (k + 1) a).Perm ws := by
  induction ws generalizing k with
  | nil => cases ha
  | cons x xs ih =>
    cases k with
    | zero =>
      cases ha
      cases xs with
      | nil => cases hb
      | cons y ys =>
        cases hb
        exact .swap ..
    | succ k => exact (ih ha hb).cons x
theorem perm_strs {us : List D} {ws : List Str} (h : us.Perm (ws.map D.str)) : ∃ vs : List Str, us = vs.map D.str ∧ vs.Perm ws := by
  let un : D → Str := fun d => match d with | .str x => x | _ => Str.empty
  refine ⟨us.map un, ?_, ?_⟩
  · rw [List.map_map]
    refine (List.map_id us).symm.trans (List.map_congr_left fun d hd => ?_)
    obtain ⟨z, _, rfl⟩ := List.mem_map.mp (h.mem_iff.mp hd)
    rfl
  · have := h.map un
    rw [List.map_map] at this
    refine this.trans ?_
    rw [show (ws.map (un ∘ D.str)) = ws from (List.map_congr_left (fun _ _ => rfl)).trans (List.map_id ws)]
section
variable {P : Program} {w : World} {K : PySem.W.Frag} {mg : Str → Option Value} {base : Heap}
theorem ok__law_some {f : Addr} {fd : FuncData} {C_Sides C_Parcel C_Heap C_NoSide C_NoNames : Addr} {f__law_take f__law_shuffled : Addr} {g__law_take g__law_shuffled : FuncData}
    (F : Fd K "_law_some" "_law_some" s__law_some [] f fd) (T : Tx K mg) (hsys : SysOk base)
    (c__law_take : Cf P w K mg base (L2.CX P w) 1 "_law_take" s__law_take [] a__law_take p__law_take f__law_take g__law_take)
    (c__law_shuffled : Cf P w K mg base (L2.CX P w) 2 "_law_shuffled" s__law_shuffled [] a__law_shuffled p_shuf40 f__law_shuffled g__law_shuffled) :
    FnG P w K mg base (L2.CX P w) 3 f fd a__law_some (spOf K p__law_some) := by
  refine VS.unbox ?_
  simp (disch := with_unfolding_all
    refine fn_val F sc__law_some (fun ds S G Y h => ?_) (fun cdv A hgd outer s H E hr px tk po ds S G Y h => ?_)
    · obtain ⟨p, l, n, rs, rfl, _⟩ := h
      rfl
    · obtain ⟨p, l, n, rs, rfl, hl, hrs, hp, hn, q⟩ := h
      refine ⟨_, (pss_cons (ps_set (i := 2) sc__law_some.nd rfl (Or.inl rfl) (pe_revL (pe_lc (own := [("_law_row", 6)]) rfl sc__law_some.nd (pi_list (pv 1)) (blkOk_by (own := [("_law_row", 6)]) (N := n__law_some) (sc := defScope s__law_some) (by decide +kernel)) (fun _ _ _ _ _ => (pg_name (i := 6) sc__law_some.nd rfl (Or.inl rfl))) (fun _ _ _ _ _ => pts_nil) (fun _ _ _ _ _ => (pe_ix (kI (K := K) (r := rIxL) ix_list) (pv 6) pe_int (fun _ _ => rfl))))))
        (pss_cons (ps_set (i := 3) sc__law_some.nd rfl (Or.inl rfl) (pe_cG c__law_take.fn hgd (hr.mono (by decide)) (by rfl) c__law_take.mg c__law_take.kp c__law_take.b .nil VS.pass0 (pa_cons (pv 0) (pa_cons pe_int pa_nil))))
        (pss_cons (ps_if (pt_cmpR op_eq (pv 3) pe_int (nomark _)) (pss_one (ps_ret (pe_cG c__law_shuffled.fn hgd (hr.mono (by decide)) (by rfl) c__law_shuffled.mg c__law_shuffled.kp c__law_shuffled.b .nil VS.pass0 (pa_cons (pv 0) (pa_cons (pv 2) pa_nil)))))
        pss_nil)
        (pss_cons (ps_if (PW.pt (pw_and (pt_cmpR op_eq (pv 3) pe_int (nomark _)) (pw_and1 (pt_cmpR op_gt (pe_callB c_len (by rfl) T.b_len (by decide +kernel) (pa_cons (pv 2) pa_nil)) pe_int (nomark _))))) (pss_cons (ps_set (i := 4) sc__law_some.nd rfl (Or.inl rfl) (pe_cG c__law_take.fn hgd (hr.mono (by decide)) (by rfl) c__law_take.mg c__law_take.kp c__law_take.b .nil VS.pass0 (pa_cons (pv 0) (pa_cons (pe_op op_sub (pe_callB c_len (by rfl) T.b_len (by decide +kernel) (pa_cons (pv 2) pa_nil)) pe_int) pa_nil))))
        (pss_one (ps_asg (pe_tup (pa_cons (pe_ix ix_list (pv 2) (pe_op op_add (pv 4) pe_int) (fun _ _ => rfl)) (pa_cons (pe_ix ix_list (pv 2) (pv 4) (fun _ _ => rfl)) pa_nil))) (pg_tup (n := 2) rfl (pgs_cons (pg_sub (pv 2) (pv 4) set_list) (pgs_cons (pg_sub (pv 2) (pe_op op_add (pv 4) pe_int) set_list) pgs_nil))))))
        pss_nil)
        (pss_cons (ps_if (pt_cmpR op_in_seq (pv 3) (pe_tup (pa_cons pe_int (pa_cons pe_int pa_nil))) (by rfl)) (pss_cons (ps_set (i := 5) sc__law_some.nd rfl (Or.inr rfl) (pe_ix ix_list (pe_lst (pa_cons pe_int (pa_cons pe_int pa_nil))) (pe_op op_sub (pv 3) pe_int) (fun _ _ => rfl)))
        (pss_one (ps_setLc (i := 2) (own := [("_law_word_by", 7)]) rfl sc__law_some.nd rfl rfl (sw_true rfl rfl rfl (by decide +kernel)) (pi_list (pv 2)) (blkOk_by (own := [("_law_word_by", 7)]) (N := n__law_some) (sc := defScope s__law_some) (by decide +kernel)) (fun _ _ _ _ _ => (pg_name (i := 7) sc__law_some.nd rfl (Or.inl rfl))) (fun _ _ _ _ _ => (pts_one (pt_cmpR op_gt (pe_cG c__law_take.fn hgd (hr.mono (by decide)) (by rfl) c__law_take.mg c__law_take.kp c__law_take.b .nil VS.pass0 (pa_cons (pv 0) (pa_cons (pv 5) pa_nil))) pe_int (nomark _)))) (fun _ _ _ _ _ => (pv 7)))))
        pss_nil)
        (pss_cons (ps_if (pt_cmpR op_eq (pv 3) pe_int (nomark _)) (pss_one (ps_ret (pe_cG c__law_shuffled.fn hgd (hr.mono (by decide)) (by rfl) c__law_shuffled.mg c__law_shuffled.kp c__law_shuffled.b .nil VS.pass0 (pa_cons (pv 0) (pa_cons (pv 2) pa_nil)))))
        pss_nil)
        (pss_one (ps_ret (pv 2))))))))), ?_⟩
      (try dsimp only [cxOf, List.map])
      show VX _ _ [_, _, _, _, _, _, _, _] _ _
      walk_at "gr"
      refine ve_revLc ?_
      refine ve_lcCellE (l := l) ?_ hl (by rw [List.length_map]; have := hrs.l; omega) (fun i acc S2 => acc = ((rs.map Pc.nm).map D.str).take i ∧ S2 = VS.del S l) ⟨rfl, rfl⟩ (fun i d acc S2 hd hw _ => ?_) ?_
      · walk_at "gr"
        exact ⟨rfl, rfl⟩
      · obtain ⟨rfl, rfl⟩ := hw
        rw [List.getElem?_map] at hd
        cases e : rs[i]? with
        | none => rw [e] at hd; cases hd
        | some r =>
          rw [e] at hd
          cases hd
          walk_at "gr"
          refine ⟨?_, rfl⟩
          rw [List.take_succ]
          congr 1
          rw [List.getElem?_map, List.getElem?_map, e]
          rfl
      rintro acc S2 ⟨rfl, rfl⟩ _
      rw [put_back hl]
      rw [List.take_of_length_le (by simp)]
      refine ⟨_, .v, fun f hf => ?_⟩
      have npf := hp.ne hf
      have h1 : Pu (put S f (.lst (((rs.map Pc.nm).map D.str).reverse))) p n := hp.put hf
      have cf : (put S f (.lst (((rs.map Pc.nm).map D.str).reverse))) f = some (.lst ((rs.map Pc.nm).reverse.map D.str)) := by rw [put_same, List.map_reverse]
      have o1 : Ex1 p S (put S f (.lst (((rs.map Pc.nm).map D.str).reverse))) := Ex1.refl.new hf
      generalize put S f (.lst (((rs.map Pc.nm).map D.str).reverse)) = S1 at h1 cf o1 ⊢
      obtain ⟨ws, ew⟩ : ∃ ws : List Str, ws = (rs.map Pc.nm).reverse := ⟨_, rfl⟩
      have wm : ∀ z ∈ ws, z ∈ rs.map Pc.nm := fun z hz => by rw [ew] at hz; exact List.mem_reverse.mp hz
      have wn : ws.Nodup := by rw [ew]; exact (List.reverse_perm _).nodup_iff.mpr hrs.n
      have wl : ws.length ≤ 12 := by rw [ew, List.length_reverse, List.length_map]; exact hrs.l
      rw [← ew] at cf
      walk_at "gr"
      intro w S2 w0 w1 h2 o2
      have cf := (o2 f (Ne.symm npf)).trans cf
      have o2 := o1.trans o2.ex1
      clear h1 o1
      walk_at "gr"
      refine ⟨fun ew => ?_, fun ew => ?_⟩
      · walk_at "gr"
        first | refine ⟨p, _, _, _, rfl, .c cf, h2, by omega, by rw [List.length_map]; omega, fun us S3 pm h3 o3 => ?_⟩ | refine .inl ⟨p, _, _, _, rfl, .c cf, h2, by omega, by rw [List.length_map]; omega, fun us S3 pm h3 o3 => ?_⟩
        obtain ⟨vs, rfl, pv⟩ := perm_strs pm
        exact q vs S3 (fun z hz => wm z (pv.mem_iff.mp hz)) (pv.nodup_iff.mpr wn) (h3.mono (by omega)) (o2.trans o3)
      refine vx_next ?_
      refine vx_join (fun ρ2 S3 => ∃ (vs : List Str) (x4 : Option D), (∀ z ∈ vs, z ∈ rs.map Pc.nm) ∧ vs.Nodup ∧ vs.length ≤ 12 ∧ Pu S3 p (n + 2) ∧ Ex1 p S S3 ∧ S3 f = some (.lst (vs.map D.str)) ∧ ρ2 = [some (.ref p), some (.ref l), some (.ref f), some (.int w), x4, none, none, none]) ?_ ?_
      · refine vx_ifJ (fun b S3 => S3 = S2 ∧ (b = true → 1 < ws.length)) ?_ (fun S3 h => ?_) (fun S3 h => ?_)
        · walk_at "gr"
          refine ⟨fun _ => ?_, fun _ => ⟨rfl, nofun⟩⟩
          walk_at "gr"
          refine ⟨rfl, fun z => ?_⟩
          have z := of_decide_eq_true z
          rw [List.length_map] at z
          omega
        · obtain ⟨rfl, hb⟩ := h
          have hb := hb rfl
          walk_at "gr"
          refine take_ok h2 (by omega) (by rw [List.length_map]; omega) (by rw [List.length_map]; omega) fun k S4 k0 k1 h4 o4 => ?_
          have cf := (o4 f (Ne.symm npf)).trans cf
          have o4 := o2.trans o4.ex1
          obtain ⟨k, rfl⟩ := Int.eq_ofNat_of_zero_le k0
          rw [List.length_map] at k1
          obtain ⟨a, ha⟩ : ∃ a, ws[k]? = some a := ⟨_, List.getElem?_eq_getElem (by omega)⟩
          obtain ⟨b, hb'⟩ : ∃ b, ws[k + 1]? = some b := ⟨_, List.getElem?_eq_getElem (by omega)⟩
          have e0 : (ws.map D.str)[k]? = some (.str a) := by rw [List.getElem?_map, ha]; rfl
          have e1 : (ws.map D.str)[k + 1]? = some (.str b) := by rw [List.getElem?_map, hb']; rfl
          walk_at "gr"
          rw [show ((k : Int) + 1) = ((k + 1 : Nat) : Int) from rfl]
          refine rv_ixL (.c cf) (atI_nat e1) ?_
          walk_at "gr"
          refine rv_ixL (.c cf) (atI_nat e0) ?_
          have ix : ∀ (m : Nat) (xs : List D), m < xs.length → ixN xs.length (m : Int) = some m := fun m xs h => ixN_in (by omega) (by omega)
          walk_at "gr"
          refine ⟨_, k, _, rfl, cf, ix k _ (by rw [List.length_map]; omega), ?_⟩
          walk_at "gr"
          refine ⟨_, k + 1, _, rfl, put_same, ix (k + 1) _ (by rw [List.length_set, List.length_map]; omega), ?_⟩
          have es : ((ws.map D.str).set k (.str b)).set (k + 1) (.str a) = ((ws.set k b).set (k + 1) a).map D.str := by rw [List.map_set, List.map_set]
          have pm := swap_perm ha hb'
          walk_at "gr"
          refine ⟨(ws.set k b).set (k + 1) a, _, fun z hz => wm z (pm.mem_iff.mp hz), pm.nodup_iff.mpr wn, by rw [pm.length_eq]; exact wl, ((h4.wr npf).wr npf).mono (by omega), (o4.wr2 hf).wr2 hf, by rw [put_same, es], rfl⟩
        · obtain ⟨rfl, hb⟩ := h
          walk_at "gr"
          exact ⟨ws, _, wm, wn, wl, h2.mono (by omega), o2, cf, rfl⟩
      clear h2 o2 cf wm wn wl
      rintro _ S3 ⟨vs, x4, vm, vn, vl, h3, o3, cf, rfl⟩
      have h4 : Pu (VS.del S3 f) p (n + 2) := h3.dl npf
      have o4 : Ex1 p S (VS.del S3 f) := o3.dl hf
      refine vx_freeze 2 rfl cf ?_
      show VX _ _ [some (.ref p), some (.ref l), some (.lst (vs.map D.str)), some (.int w), x4, none, none, none] _ _
      generalize VS.del S3 f = S4 at h4 o4 ⊢
      clear h3 o3 cf
      refine vx_join (fun ρ2 S5 => ∃ (us : List Str) (x5 : Option D), (∀ z ∈ us, z ∈ rs.map Pc.nm) ∧ us.Nodup ∧ us.length ≤ 12 ∧ Pu S5 p (n + 50) ∧ Ex1 p S S5 ∧ ρ2 = [some (.ref p), some (.ref l), some (.lst (us.map D.str)), some (.int w), x4, x5, none, none]) ?_ ?_
      · refine vx_ifJ (fun b S5 => S5 = S4 ∧ (b = true → w = 2 ∨ w = 3)) ?_ (fun S5 h => ?_) (fun S5 h => ?_)
        · walk_at "gr"
          refine rv_in .t rfl rfl ?_
          refine ⟨_, rfl, rfl, fun e => ?_⟩
          simp [inD, eqD] at e
          omega
        · obtain ⟨rfl, hb⟩ := h
          have hb := hb rfl
          walk_at "gr"
          refine ve_lst ?_
          walk_at "gr"
          refine rv_ixAll (fun d => ∃ m : Int, d = .int m ∧ 2 ≤ m ∧ m ≤ 5) (by omega) (by show _ < (2 : Int); omega) (ac ⟨_, rfl, by decide, by decide⟩ (ac ⟨_, rfl, by decide, by decide⟩ an)) ?_
          rintro _ ⟨m, rfl, m0, m1⟩
          walk_at "gr"
          refine ve_lc (vi_list ?_)
          walk_at "gr"
          refine ⟨_, .v, by rw [List.length_map]; omega, fun i acc S6 => ∃ fs : List Str, acc = fs.map D.str ∧ fs.Sublist (vs.take i) ∧ Pu S6 p (n + 2 + (i : Nat)) ∧ Ex1 p S S6, ⟨[], rfl, List.nil_sublist _, h4.mono (by omega), o4⟩, ?_, ?_⟩
          · rintro i d acc S6 hd ⟨fs, rfl, hsub, h6, o6⟩ _
            rw [List.getElem?_map] at hd
            cases ez : vs[i]? with
            | none => rw [ez] at hd; cases hd
            | some z =>
              rw [ez] at hd
              cases hd
              have li : i < vs.length := (List.getElem?_eq_some_iff.mp ez).1
              have tk : vs.take (i + 1) = vs.take i ++ [z] := by rw [List.take_succ, ez]; rfl
              walk_at "gr"
              intro u S7 u0 u1 h7 o7
              have o7 := o6.trans o7.ex1
              walk_at "gr"
              refine VS.br (fun e2 => ?_) (fun e2 => ?_)
              · walk_at "gr"
                exact ⟨fs ++ [z], by rw [List.map_append]; rfl, by rw [tk]; exact hsub.append (List.Sublist.refl _), h7.mono (by omega), o7⟩
              · exact ⟨fs, rfl, by rw [tk]; exact hsub.trans (List.sublist_append_left _ _), h7.mono (by omega), o7⟩
          · rintro acc S6 ⟨fs, rfl, hsub, h6, o6⟩ _
            rw [List.length_map] at h6 hsub
            rw [List.take_length] at hsub
            walk_at "gr"
            exact ⟨fs, _, fun z hz => vm z (hsub.subset hz), vn.sublist hsub, Nat.le_trans hsub.length_le vl, h6.mono (by omega), o6, rfl⟩
        · obtain ⟨rfl, hb⟩ := h
          walk_at "gr"
          exact ⟨vs, _, vm, vn, vl, h4.mono (by omega), o4, rfl⟩
      clear h4 o4 vm vn vl
      rintro _ S5 ⟨us, x5, um, un, ul, h5, o5, rfl⟩
      walk_at "gr"
      refine ⟨fun ew => ?_, fun ew => ?_⟩
      · walk_at "gr"
        first | refine ⟨p, _, _, _, rfl, .v, h5, by omega, by rw [List.length_map]; omega, fun ys S6 pm h6 o6 => ?_⟩ | refine .inl ⟨p, _, _, _, rfl, .v, h5, by omega, by rw [List.length_map]; omega, fun ys S6 pm h6 o6 => ?_⟩
        obtain ⟨ts, rfl, pv⟩ := perm_strs pm
        exact q ts S6 (fun z hz => um z (pv.mem_iff.mp hz)) (pv.nodup_iff.mpr un) (h6.mono (by omega)) (o5.trans o6)
      · walk_at "gr"
        exact q us S5 um un (h5.mono (by omega)) o5) only [↓VS.box]
end
end LW
namespace LW
open PySem L2 C8 PySem.Spec PyProof.Rows VS
/-! ### the fault that is told is the one that is due -/
/-- a parcel with a row's name, numbers and labels, whatever its sides -/
structure Lk (r p : Pc) : Prop where
  n : p.nm = r.nm
  w : p.wt = r.wt
  b : p.br = r.br
  m : p.mk = mksOf r.mk
inductive LkL : List Pc → List Pc → Prop
  | nil : LkL [] []
  | cons {r p : Pc} {rs ps : List Pc} (h : Lk r p) (t : LkL rs ps) : LkL (r :: rs) (p :: ps)
theorem LkL.of {ps : List Pc} : ∀ {qs : List Pc}, (∀ q ∈ qs, ∃ p ∈ ps, Lk q p) → ∃ zs, LkL qs zs ∧ ∀ z ∈ zs, z ∈ ps
  | [], _ => ⟨[], .nil, nofun⟩
  | q :: qs, h => by
    obtain ⟨p, hp, k⟩ := h q (List.mem_cons_self ..)
    obtain ⟨zs, k2, m⟩ := LkL.of (qs := qs) fun x hx => h x (List.mem_cons_of_mem _ hx)
    exact ⟨p :: zs, .cons k k2, fun x hx => (List.mem_cons.mp hx).elim (fun e => by rw [e]; exact hp) (m x)⟩
theorem LkL.nm : ∀ {rs ps : List Pc}, LkL rs ps → ps.map Pc.nm = rs.map Pc.nm
  | _, _, .nil => rfl
  | _, _, .cons h t => by rw [List.map_cons, List.map_cons, h.n, t.nm]
theorem names_of : ∀ {ws : List Str} {ps : List Pc}, (∀ z ∈ ws, z ∈ ps.map Pc.nm) → ∃ qs : List Pc, qs.map Pc.nm = ws ∧ ∀ q ∈ qs, q ∈ ps
  | [], _, _ => ⟨[], rfl, nofun⟩
  | w :: ws, ps, h => by
    obtain ⟨q, hq, e⟩ := List.mem_map.mp (h w (List.mem_cons_self ..))
    obtain ⟨qs, e2, h2⟩ := names_of (ws := ws) (ps := ps) fun z hz => h z (List.mem_cons_of_mem _ hz)
    exact ⟨q :: qs, by rw [List.map_cons, e, e2], fun x hx => (List.mem_cons.mp hx).elim (fun e => by rw [e]; exact hq) (h2 x)⟩
theorem some_of {ws : List Str} {ps : List Pc} (h : ∀ z ∈ ws, z ∈ ps.map Pc.nm) (n : ws.Nodup) : ∃ qs : List Pc, qs.map Pc.nm = ws ∧ Some_ ps qs := by
  obtain ⟨qs, e, m⟩ := names_of h
  exact ⟨qs, e, m, by rw [e]; exact n⟩
end LW
namespace LW
open PySem L2 C8 PySem.Spec PyProof.Rows VS
/-! ### lists of texts compared; perms -/
theorem perm_map_ex {α β : Type} {f : α → β} : ∀ {xs : List α} {us : List β}, us.Perm (xs.map f) → ∃ ys : List α, us = ys.map f ∧ ys.Perm xs
  | [], us, h => ⟨[], by rw [List.map_nil] at h; exact List.Perm.eq_nil h, .refl _⟩
  | x :: xs, us, h => by
    have hm : f x ∈ us := h.mem_iff.mpr (List.mem_cons_self ..)
    obtain ⟨s, t, rfl⟩ := List.append_of_mem hm
    have h2 : (s ++ t).Perm (xs.map f) := (List.perm_middle.symm.trans h).cons_inv
    obtain ⟨ys, e, p⟩ := perm_map_ex h2
    obtain ⟨y1, y2, rfl, e1, e2⟩ := List.map_eq_append_iff.mp e.symm
    exact ⟨y1 ++ x :: y2, by rw [List.map_append, List.map_cons, e1, e2], List.perm_middle.trans (p.cons x)⟩
theorem ok_strB {n : Nat} {z : Str} (h : Asc n z) (hn : n ≤ 19) : Ok (.str z) 200 2 := ⟨(Sh.str h).mono (by omega) (by decide), by show ((pd (.str z)).canLay0 && decide ((pd (.str z)).depth ≤ 64)) = true; rw [asc_ok h.2]; rfl, nofun⟩
theorem ok_strs {ws : List Str} (h : ∀ z ∈ ws, Asc 19 z) (hl : ws.length ≤ 100) : Ok (.lst (ws.map D.str)) 30000 4 :=
  (Ok.lst 100 (n := 200) (k := 2) (fun y hy => by
    obtain ⟨z, hz, rfl⟩ := List.mem_map.mp hy
    exact ok_strB (h z hz) (by decide)) (by rw [List.length_map]; exact hl) (by decide)).mono (by decide) (by decide)
theorem Hps.perm {rs ts : List Pc} (h : Hps rs) (p : ts.Perm rs) : Hps ts := ⟨fun x hx => h.g x (p.mem_iff.mp hx), (p.map Pc.nm).nodup_iff.mpr h.n, by rw [p.length_eq]; exact h.l⟩
theorem Hps.asc {rs : List Pc} (h : Hps rs) {z : Str} (hz : z ∈ rs.map Pc.nm) : Asc 19 z := by
  obtain ⟨r, hr, rfl⟩ := List.mem_map.mp hz
  exact (Pg.asc (h.g r hr)).mono (by decide)
theorem Hps.nmlen {rs : List Pc} (h : Hps rs) : (rs.map Pc.nm).length ≤ 12 := by rw [List.length_map]; exact h.l
end LW
namespace LW
open PySem L2 C8 PySem.Spec PyProof.Rows VS
/-! ### a law's world: its purse, and what it keeps by reference -/
structure Wd (S : Sto) (p : Addr) (n : Int) (L : List (Addr × D)) : Prop where
  pu : Pu S p n
  at_ : ∀ x ∈ L, S x.1 = some x.2
  ne : ∀ x ∈ L, x.1 ≠ p
  nd : (L.map Prod.fst).Nodup
theorem Wd.of {S : Sto} {p : Addr} {n : Int} (h : Pu S p n) : Wd S p n [] := ⟨h, nofun, nofun, .nil⟩
theorem Wd.mono {S : Sto} {p : Addr} {n m : Int} {L : List (Addr × D)} (w : Wd S p n L) (h : n ≤ m) : Wd S p m L := ⟨w.pu.mono h, w.at_, w.ne, w.nd⟩
theorem Wd.ex1 {S S' : Sto} {p : Addr} {n m : Int} {L : List (Addr × D)} (w : Wd S p n L) (h : Pu S' p m) (o : Ex1 p S S') : Wd S' p m L := ⟨h, fun x hx => o _ _ (w.ne x hx) (w.at_ x hx), w.ne, w.nd⟩
theorem Wd.off {S S' : Sto} {p : Addr} {n m : Int} {L : List (Addr × D)} (w : Wd S p n L) (h : Pu S' p m) (o : Off p S S') : Wd S' p m L := w.ex1 h o.ex1
theorem Wd.ext {S S' : Sto} {p : Addr} {n : Int} {L : List (Addr × D)} (w : Wd S p n L) (x : Ext S S') : Wd S' p n L := ⟨w.pu.ext x, fun y hy => x _ _ (w.at_ y hy), w.ne, w.nd⟩
theorem Wd.get {S : Sto} {p : Addr} {n : Int} {L : List (Addr × D)} (w : Wd S p n L) (i : Nat) {a : Addr} {d : D} (e : L[i]? = some (a, d)) : S a = some d := w.at_ _ (List.mem_of_getElem? e)
theorem Wd.nep {S : Sto} {p : Addr} {n : Int} {L : List (Addr × D)} (w : Wd S p n L) (i : Nat) {a : Addr} {d : D} (e : L[i]? = some (a, d)) : p ≠ a := Ne.symm (w.ne _ (List.mem_of_getElem? e))
theorem Wd.nij {S : Sto} {p : Addr} {n : Int} {L : List (Addr × D)} (w : Wd S p n L) (i j : Nat) {a b : Addr} {d d' : D} (e : L[i]? = some (a, d)) (e' : L[j]? = some (b, d')) (h : i ≠ j) : a ≠ b := fun z => by
  subst z
  have h1 : (L.map Prod.fst)[i]? = some a := by rw [List.getElem?_map, e]; rfl
  have h2 : (L.map Prod.fst)[j]? = some a := by rw [List.getElem?_map, e']; rfl
  exact h ((List.getElem?_inj (by rw [List.length_map]; exact (List.getElem?_eq_some_iff.mp e).1) w.nd).mp (h1.trans h2.symm))
theorem Wd.free {S : Sto} {p : Addr} {n : Int} {L : List (Addr × D)} {l : Addr} (w : Wd S p n L) (hl : S l = none) : l ∉ L.map Prod.fst := fun z => by
  obtain ⟨x, hx, rfl⟩ := List.mem_map.mp z
  rw [w.at_ x hx] at hl
  cases hl
theorem Wd.new {S : Sto} {p l : Addr} {n : Int} {L : List (Addr × D)} {d : D} (w : Wd S p n L) (hl : S l = none) : Wd (put S l d) p n ((l, d) :: L) := by
  have hf := w.free hl
  refine ⟨w.pu.put hl, fun x hx => ?_, fun x hx => ?_, List.nodup_cons.mpr ⟨hf, w.nd⟩⟩
  · rcases List.mem_cons.mp hx with e | hx
    · rw [e]; exact put_same
    · rw [put_ne]
      · exact w.at_ x hx
      · exact fun z => hf (List.mem_map.mpr ⟨x, hx, z⟩)
  · rcases List.mem_cons.mp hx with e | hx
    · rw [e]; exact Ne.symm (w.pu.ne hl)
    · exact w.ne x hx
theorem Wd.new1 {S S' : Sto} {p l : Addr} {n m : Int} {L : List (Addr × D)} {d : D} (w : Wd S p n L) (hl : S l = none) (hp : Pu S' p m) (o : Ex1 p S S') (h : S' l = some d) : Wd S' p m ((l, d) :: L) := by
  have v := w.ex1 hp o
  refine ⟨v.pu, fun y hy => ?_, fun y hy => ?_, List.nodup_cons.mpr ⟨w.free hl, w.nd⟩⟩
  · rcases List.mem_cons.mp hy with e | hy
    · rw [e]; exact h
    · exact v.at_ y hy
  · rcases List.mem_cons.mp hy with e | hy
    · rw [e]; exact Ne.symm (w.pu.ne hl)
    · exact w.ne y hy
theorem Wd.wr {S : Sto} {p a : Addr} {n : Int} {L : List (Addr × D)} {d d' : D} (w : Wd S p n L) (i : Nat) (e : L[i]? = some (a, d)) : Wd (VS.put S a d') p n (L.set i (a, d')) := by
  refine ⟨w.pu.wr (w.nep i e), fun x hx => ?_, fun x hx => ?_, ?_⟩
  · obtain ⟨j, hj⟩ := List.getElem?_of_mem hx
    by_cases z : j = i
    · subst z
      rw [List.getElem?_set_self (List.getElem?_eq_some_iff.mp e).1] at hj
      cases hj
      exact put_same
    · rw [List.getElem?_set_ne (Ne.symm z)] at hj
      have hj' : L[j]? = some (x.1, x.2) := hj
      rw [put_ne (w.nij j i hj' e z)]
      exact w.get j hj'
  · rcases List.mem_or_eq_of_mem_set hx with hx | hx
    · exact w.ne x hx
    · rw [hx]; exact Ne.symm (w.nep i e)
  · have : (L.set i (a, d')).map Prod.fst = L.map Prod.fst := by
      refine List.ext_getElem? fun j => ?_
      rw [List.getElem?_map, List.getElem?_map]
      by_cases z : j = i
      · subst z
        rw [List.getElem?_set_self (List.getElem?_eq_some_iff.mp e).1, e]
        rfl
      · rw [List.getElem?_set_ne (Ne.symm z)]
    rw [this]
    exact w.nd
theorem Wd.sub {S : Sto} {p : Addr} {n : Int} {L M : List (Addr × D)} (w : Wd S p n L) (h : M.Sublist L) : Wd S p n M := ⟨w.pu, fun x hx => w.at_ x (h.subset hx), fun x hx => w.ne x (h.subset hx), w.nd.sublist (h.map _)⟩
theorem Wd.tl {S : Sto} {p : Addr} {n : Int} {x : Addr × D} {L : List (Addr × D)} (w : Wd S p n (x :: L)) : Wd S p n L := w.sub (List.sublist_cons_self ..)
theorem Pu.dl' {S : Sto} {p l : Addr} {n : Int} (h : Pu S p n) (ne : p ≠ l) : Pu (VS.del S l) p n := by
  obtain ⟨x, y, z, e, r⟩ := h
  exact ⟨x, y, z, (VS.del_ne ne).trans e, r⟩
theorem Wd.dl {S : Sto} {p a : Addr} {n : Int} {L : List (Addr × D)} {d : D} (w : Wd S p n L) (i : Nat) (e : L[i]? = some (a, d)) : Wd (VS.del S a) p n (L.eraseIdx i) := by
  refine ⟨w.pu.dl' (w.nep i e), fun x hx => ?_, fun x hx => w.ne x (List.mem_of_mem_eraseIdx hx), w.nd.sublist ((List.eraseIdx_sublist ..).map _)⟩
  obtain ⟨j, ne, hj⟩ := List.mem_eraseIdx_iff_getElem?.mp hx
  have hj' : L[j]? = some (x.1, x.2) := hj
  rw [VS.del_ne (w.nij j i hj' e ne)]
  exact w.get j hj'
theorem Wd.g0 {S : Sto} {p a : Addr} {n : Int} {d : D} {L : List (Addr × D)} (w : Wd S p n ((a, d) :: L)) : S a = some d := w.get 0 rfl
theorem Wd.g1 {S : Sto} {p a : Addr} {n : Int} {d : D} {x0 : Addr × D} {L : List (Addr × D)} (w : Wd S p n (x0 :: (a, d) :: L)) : S a = some d := w.get 1 rfl
theorem Wd.g2 {S : Sto} {p a : Addr} {n : Int} {d : D} {x0 x1 : Addr × D} {L : List (Addr × D)} (w : Wd S p n (x0 :: x1 :: (a, d) :: L)) : S a = some d := w.get 2 rfl
theorem Wd.g3 {S : Sto} {p a : Addr} {n : Int} {d : D} {x0 x1 x2 : Addr × D} {L : List (Addr × D)} (w : Wd S p n (x0 :: x1 :: x2 :: (a, d) :: L)) : S a = some d := w.get 3 rfl
theorem Wd.g4 {S : Sto} {p a : Addr} {n : Int} {d : D} {x0 x1 x2 x3 : Addr × D} {L : List (Addr × D)} (w : Wd S p n (x0 :: x1 :: x2 :: x3 :: (a, d) :: L)) : S a = some d := w.get 4 rfl
theorem Wd.g5 {S : Sto} {p a : Addr} {n : Int} {d : D} {x0 x1 x2 x3 x4 : Addr × D} {L : List (Addr × D)} (w : Wd S p n (x0 :: x1 :: x2 :: x3 :: x4 :: (a, d) :: L)) : S a = some d := w.get 5 rfl
theorem Wd.g6 {S : Sto} {p a : Addr} {n : Int} {d : D} {x0 x1 x2 x3 x4 x5 : Addr × D} {L : List (Addr × D)} (w : Wd S p n (x0 :: x1 :: x2 :: x3 :: x4 :: x5 :: (a, d) :: L)) : S a = some d := w.get 6 rfl
theorem Wd.g7 {S : Sto} {p a : Addr} {n : Int} {d : D} {x0 x1 x2 x3 x4 x5 x6 : Addr × D} {L : List (Addr × D)} (w : Wd S p n (x0 :: x1 :: x2 :: x3 :: x4 :: x5 :: x6 :: (a, d) :: L)) : S a = some d := w.get 7 rfl
theorem take_w {S : Sto} {p : Addr} {n m : Int} {L : List (Addr × D)} {G : D → Sto → Prop} {Y : Addr → List (Str × D) → Sto → Prop} (w : Wd S p n L) (hn : n < 1000000) (h0 : 0 < m) (h1 : m < 2 ^ 64)
    (q : ∀ (d : Int) (S' : Sto), 0 ≤ d → d < m → Wd S' p (n + 1) L → G (.int d) S') : p__law_take [.ref p, .int m] S G Y := take_ok w.pu hn h0 h1 fun d S' d0 d1 h o => q d S' d0 d1 (w.off h o)
end LW
open LW
local macro_rules | `(tactic| walk_at "wd") => `(tactic| first | (apply Wd.g0; assumption) | (apply Wd.g1; assumption) | (apply Wd.g2; assumption) | (apply Wd.g3; assumption) | (apply Wd.g4; assumption) | (apply Wd.g5; assumption) | (apply Wd.g6; assumption) | (apply Wd.g7; assumption))
local macro_rules | `(tactic| walk_at "ii") => `(tactic| first | exact .v | exact .c put_same | exact .c (by assumption) | (apply IsL.c; walk_at "wd") | (apply IsA.c; walk_at "wd") | (refine .c ?_; walk_at "wd"))
local macro_rules | `(tactic| walk_at "gp") => `(tactic| ((with_reducible apply ex_cell); (· walk_at "wd")))
local macro_rules | `(tactic| walk_at "gp") => `(tactic| ((with_reducible apply take_w); (· assumption); (· first | decide | omega); (· first | decide | (simp only [List.length_map]; omega) | omega); (· first | decide | (simp only [List.length_map]; omega) | omega)))
local macro_rules | `(tactic| walk_at "gp") => `(tactic| ((with_reducible apply rv_ixL); (· (apply IsL.c; walk_at "wd")); (· rfl)))
local macro_rules | `(tactic| walk_at "gp") => `(tactic| ((with_reducible apply rc_lenQ); (· (apply IsQ.l; apply IsL.c; walk_at "wd"))))
namespace LW
open PySem L2 C8 PySem.Spec PyProof.Rows VS
/-! ### a parcel's numbers, asked -/
section
variable {CP CS : Addr} {S : Sto} {G : D → Sto → Prop} {Y : Addr → List (Str × D) → Sto → Prop} {p : Pc}
theorem pc_name (q : G (.str p.nm) S) : p_Pc_name CP CS [p.d CP CS] S G Y := ⟨p.nm, p.a, p.b, p.c, p.wl, p.wt, p.br, p.mk, rfl, q⟩
theorem pc_weight (q : G (.int p.wt) S) : p_Pc_weight CP CS [p.d CP CS] S G Y := ⟨p.nm, p.a, p.b, p.c, p.wl, p.wt, p.br, p.mk, rfl, q⟩
theorem pc_bears (q : G (.int p.br) S) : p_Pc_bears CP CS [p.d CP CS] S G Y := ⟨p.nm, p.a, p.b, p.c, p.wl, p.wt, p.br, p.mk, rfl, q⟩
theorem pc_parcel {CH h l : Addr} {ps : List Pc} (hs : HpS S CH CP CS h l ps) (hp : Hps ps) (hm : p ∈ ps) (q : G (p.d CP CS) S) : p_Hp_parcel CH CP CS [.ref h, .str p.nm] S G Y := by
  obtain ⟨k, hk⟩ := List.getElem?_of_mem hm
  exact ⟨h, l, ps, k, p, rfl, hs, hp.l, Hps.frs hp.n hk, q⟩
theorem pc_names {CH h l : Addr} {ps : List Pc} (hs : HpS S CH CP CS h l ps) (hp : Hps ps) (q : G (.lst ((ps.map Pc.nm).map D.str)) S) : p_Hp_names CH CP CS [.ref h] S G Y := ⟨h, l, ps, rfl, hs, hp.l, q⟩
/-- what a pure look tells of a parcel's label top -/
theorem is_top_ok (q : ∀ S', Ext S S' → G (.bl (tpB p)) S') : p_is_top CP CS [p.d CP CS] S G Y := ⟨p, rfl, q⟩
end
end LW
local macro_rules | `(tactic| walk_at "gp") => `(tactic| with_reducible refine pc_name ?_)
local macro_rules | `(tactic| walk_at "gp") => `(tactic| with_reducible refine pc_weight ?_)
local macro_rules | `(tactic| walk_at "gp") => `(tactic| with_reducible refine pc_bears ?_)
local macro_rules | `(tactic| walk_at "gp") => `(tactic| ((with_reducible apply pc_names); (· assumption); (· assumption)))
namespace LW
open PySem L2 C8 PySem.Spec PyProof.Rows VS
/-! ### a stack that holds, or a lot that shows that there is none -/
theorem _root_.VS.Ext.non' {S S' : Sto} {a : Addr} (x : Ext S S') (h : S' a = none) : S a = none := by
  cases e : S a with
  | none => rfl
  | some d => rw [x _ _ e] at h; cases h
theorem cut_take (xs : List D) {t : Nat} (h : t ≤ xs.length) : VS.cutD xs none (some (t : Int)) = xs.take t := by
  show (xs.drop 0).take (HT.sIx xs.length xs.length (some (t : Int)) - 0) = _
  rw [HT.sIx_nat, Nat.min_eq_left h]
  rfl
def mgt (p : Pc) : Int := p.wt + p.br
def srtM (zs : List Pc) : List Pc := zs.mergeSort (fun p q => decide (mgt q ≤ mgt p))
def ordM (zs : List Pc) : List Pc := (srtM zs).filter (fun p => !tpB p) ++ (srtM zs).filter tpB
/-- from the first fault on -/
def fltF : List Pc → List Pc
  | [] => []
  | p :: ps => if (tpB p = true ∧ ps ≠ []) ∨ p.br < wts ps then p :: ps else fltF ps
theorem fltF_suf : ∀ ps : List Pc, ∃ as, ps = as ++ fltF ps
  | [] => ⟨[], rfl⟩
  | p :: ps => by
    unfold fltF
    split
    · exact ⟨[], rfl⟩
    · obtain ⟨as, e⟩ := fltF_suf ps
      exact ⟨p :: as, by rw [List.cons_append, ← e]⟩
theorem flt_F : ∀ ps : List Pc, (fltF ps = [] ∧ fltD ps = .non) ∨ ∃ q qs w ms, fltF ps = q :: qs ∧ fltD ps = .tup (.str w :: .str q.nm :: ms)
  | [] => .inl ⟨rfl, rfl⟩
  | p :: ps => by
    unfold fltF fltD
    by_cases h1 : tpB p = true ∧ ps ≠ []
    · rw [if_pos (.inl h1), if_pos h1]
      exact .inr ⟨p, ps, _, _, rfl, rfl⟩
    · by_cases h2 : p.br < wts ps
      · rw [if_pos (.inr h2), if_neg h1, if_pos h2]
        exact .inr ⟨p, ps, _, _, rfl, rfl⟩
      · rw [if_neg (fun h => h.elim h1 h2), if_neg h1, if_neg h2]
        exact flt_F ps
def stkW (zs : List Pc) : Str := if 1 < ((srtM zs).filter tpB).length then "tops" else if fltF (ordM zs) = [] then "stack" else "heavy"
def stkL (zs : List Pc) : List Pc := if 1 < ((srtM zs).filter tpB).length then ((srtM zs).filter tpB).take 2 else if fltF (ordM zs) = [] then ordM zs else fltF (ordM zs)
theorem srtM_perm (zs : List Pc) : (srtM zs).Perm zs := List.mergeSort_perm ..
theorem ordM_perm (zs : List Pc) : (ordM zs).Perm zs := by
  refine List.Perm.trans ?_ (srtM_perm zs)
  unfold ordM
  have := List.filter_append_perm tpB (srtM zs)
  exact List.perm_append_comm.trans this
def p_might_of (CP CS : Addr) : Pt := fun ds S G _ => ∃ p : Pc, ds = [p.d CP CS] ∧ G (.int (mgt p)) S
def p_stacked (CH CP CS : Addr) : Pt := fun ds S G _ => ∃ (h l : Addr) (ps qs : List Pc) (d : D), ds = [.ref h, d] ∧ HpS S CH CP CS h l ps ∧ Hps ps ∧ SqD d (qs.map Pc.nm) ∧ Some_ ps qs ∧
  ∀ l' S', S l' = none → S' l' = some (.lst (((stkL qs).map Pc.nm).map D.str)) → Ext S S' → G (.tup [.str (stkW qs), .ref l']) S'
theorem alike_ints (ns : List Int) : PySem.W.AllAlike (ns.map PyData.int) := fun d hd d' hd' => by
  obtain ⟨n, _, rfl⟩ := List.mem_map.mp hd
  obtain ⟨m, _, rfl⟩ := List.mem_map.mp hd'
  rfl
theorem sortable_ints (ns : List Int) : PySem.W.Sortable (ns.map PyData.int) := .inr fun d hd => by
  obtain ⟨n, _, rfl⟩ := List.mem_map.mp hd
  exact ⟨nofun, nofun⟩
theorem srtK_map {α : Type} (b : Bool) (g : α → D) (k : α → PyData) (zs : List α) : srtK b (zs.map g) (zs.map k) = (zs.mergeSort (PySem.W.dataLe b k)).map g := by
  unfold srtK
  have e : (zs.map g).zip (zs.map k) = zs.map fun z => (g z, k z) := by
    clear b
    induction zs with
    | nil => rfl
    | cons z zs ih => rw [List.map_cons, List.map_cons, List.zip_cons_cons, ih, List.map_cons]
  rw [e, ← List.map_mergeSort (r := PySem.W.dataLe b k) (fun x _ y _ => by rw [PySem.W.dataLe_eq, PySem.W.dataLe_eq]), List.map_map]
  rfl
theorem srtK_M (CP CS : Addr) (zs : List Pc) : srtK true (zs.map (Pc.d CP CS)) ((zs.map mgt).map .int) = (srtM zs).map (Pc.d CP CS) := by
  rw [List.map_map, srtK_map]
  congr 2
  exact PySem.W.dataGe_int mgt
def dTop : D → Bool
  | .ins _ [_, _, _, _, _, (_, .lst ms)] => inD (.str "top") ms
  | _ => false
theorem dTop_d (CP CS : Addr) (p : Pc) : dTop (p.d CP CS) = tpB p := inD_strs p.mk
theorem filter_d (CP CS : Addr) (zs : List Pc) : (((zs.map (Pc.d CP CS)).filter dTop).map id) = (zs.filter tpB).map (Pc.d CP CS) := by
  rw [List.map_id, List.filter_map]
  congr 1
  exact List.filter_congr fun p _ => dTop_d CP CS p
theorem filter_dn (CP CS : Addr) (zs : List Pc) : (((zs.map (Pc.d CP CS)).filter (fun d => !dTop d)).map id) = (zs.filter (fun p => !tpB p)).map (Pc.d CP CS) := by
  rw [List.map_id, List.filter_map]
  congr 1
  exact List.filter_congr fun p _ => congrArg Bool.not (dTop_d CP CS p)
def nmD : D → D
  | .ins _ ((_, n) :: _) => n
  | d => d
theorem nmD_map (CP CS : Addr) (zs : List Pc) : (zs.map (Pc.d CP CS)).map nmD = (zs.map Pc.nm).map D.str := by
  rw [List.map_map, List.map_map]
  rfl
section
variable {P : Program} {w : World} {K : PySem.W.Frag} {mg : Str → Option Value} {base : Heap}
theorem ok_might_of {f : Addr} {fd : FuncData} {C_Sides C_Parcel C_Heap C_NoSide C_NoNames : Addr} {f_Parcel_weight f_Parcel_bears : Addr} {g_Parcel_weight g_Parcel_bears : FuncData}
    (F : Fd K "might_of" "might_of" s_might_of [] f fd) (T : Tx K mg) (hsys : SysOk base)
    (c_Parcel_weight : Mf P w K mg base 1 C_Parcel "weight" "Parcel.weight" s_Parcel_weight [] a_Parcel_weight (p_Pc_weight C_Parcel C_Sides) f_Parcel_weight g_Parcel_weight)
    (c_Parcel_bears : Mf P w K mg base 1 C_Parcel "bears" "Parcel.bears" s_Parcel_bears [] a_Parcel_bears (p_Pc_bears C_Parcel C_Sides) f_Parcel_bears g_Parcel_bears)
    (k_Parcel : Kl_Parcel K mg C_Parcel)
    (k_Sides : Kl_Sides K mg C_Sides) :
    FnG P w K mg base (L2.CX P w) 2 f fd a_might_of (spOf K (p_might_of C_Parcel C_Sides)) := by
  refine VS.unbox ?_
  simp (disch := with_unfolding_all
    have kc_Parcel := k_Parcel.ins.cl
    have ka_Parcel_called := k_Parcel.a_called
    have ka_Parcel_outside := k_Parcel.a_outside
    have ka_Parcel_thick := k_Parcel.a_thick
    have ka_Parcel_heavy := k_Parcel.a_heavy
    have ka_Parcel_strong := k_Parcel.a_strong
    have ka_Parcel_marks := k_Parcel.a_marks
    have ka_Parcel_told := k_Parcel.a_told
    have ka_Parcel_names := k_Parcel.a_names
    have kc_Sides := k_Sides.ins.cl
    have ka_Sides_three := k_Sides.a_three
    refine fn_val F sc_might_of (fun ds S G Y h => ?_) (fun cdv A hgd outer s H E hr px tk po ds S G Y h => ?_)
    · obtain ⟨p, rfl, _⟩ := h
      rfl
    · obtain ⟨p, rfl, q⟩ := h
      refine ⟨_, (pss_one (ps_ret (pe_op op_add (pe_mG0 (pv 0) c_Parcel_weight.cl c_Parcel_weight.me c_Parcel_weight.fn hgd (hr.mono (by decide)) c_Parcel_weight.b .nil VS.pass0) (pe_mG0 (pv 0) c_Parcel_bears.cl c_Parcel_bears.me c_Parcel_bears.fn hgd (hr.mono (by decide)) c_Parcel_bears.b .nil VS.pass0)))), ?_⟩
      (try dsimp only [cxOf, List.map])
      show VX _ _ [_] _ _
      walk_at "gr"
      exact q) only [↓VS.box]
end
end LW
namespace LW
open PySem L2 C8 PySem.Spec PyProof.Rows VS
/-! ### what is told shows it; which of the two doesn't hang on the order -/
/-- by the document's clauses, of n names -/
def ShP (w : Str) (zs : List Pc) (n : Nat) : Prop :=
  (w = "stack" ∧ zs.length = n ∧ fltD zs = .non) ∨ (w = "tops" ∧ zs.length = 2 ∧ ∀ z ∈ zs, tpB z = true) ∨
  (w = "heavy" ∧ (∃ z ∈ zs, tpB z = false) ∧ ∀ z ∈ zs, tpB z = false → z.wt + z.br < wts zs)
theorem wts_cons (p : Pc) (ps : List Pc) : wts (p :: ps) = p.wt + wts ps := by
  unfold wts
  rw [List.map_cons, List.sum_cons]
theorem fltF_ord : ∀ {A B : List Pc}, (∀ a ∈ A, tpB a = false) → A.Pairwise (fun p q => mgt q ≤ mgt p) → B.length ≤ 1 → (∀ b ∈ B, tpB b = true) → (∀ p ∈ A ++ B, 0 ≤ p.br) → ∀ {q : Pc} {r : List Pc}, fltF (A ++ B) = q :: r →
    tpB q = false ∧ q.br < wts r ∧ ∀ x ∈ q :: r, tpB x = false → mgt x ≤ mgt q
  | [], [], _, _, _, _, _, q, r, e => by cases e
  | [], [b], _, _, _, hb, h0, q, r, e => by
    have e : fltF [b] = q :: r := e
    unfold fltF at e
    have := h0 b (List.mem_singleton.mpr rfl)
    rw [if_neg (fun h => h.elim (fun h => h.2 rfl) (fun h => by have w0 : wts [] = 0 := rfl; omega))] at e
    cases e
  | [], _ :: _ :: _, _, _, hl, _, _, q, r, _ => by simp at hl
  | a :: A, B, ha, hs, hl, hb, h0, q, r, e => by
    have e : fltF (a :: (A ++ B)) = q :: r := e
    unfold fltF at e
    have ta := ha a (List.mem_cons_self ..)
    rw [List.pairwise_cons] at hs
    by_cases h : a.br < wts (A ++ B)
    · rw [if_pos (.inr h)] at e
      cases e
      refine ⟨ta, h, fun x hx tx => ?_⟩
      rcases List.mem_cons.mp hx with e | hx
      · rw [e]; exact Int.le_refl _
      · rcases List.mem_append.mp hx with hx | hx
        · exact hs.1 x hx
        · rw [hb x hx] at tx; cases tx
    · rw [if_neg (fun z => z.elim (fun z => by rw [ta] at z; exact absurd z.1 (by decide)) h)] at e
      exact fltF_ord (fun x hx => ha x (List.mem_cons_of_mem _ hx)) hs.2 hl hb (fun p hp => h0 p (List.mem_cons_of_mem _ hp)) e
theorem srtM_sorted (zs : List Pc) : (srtM zs).Pairwise (fun p q => mgt q ≤ mgt p) := by
  have h := List.pairwise_mergeSort (le := fun p q : Pc => decide (mgt q ≤ mgt p)) (fun a b c h1 h2 => decide_eq_true (Int.le_trans (of_decide_eq_true h2) (of_decide_eq_true h1))) (fun a b => by
    rcases Int.le_total (mgt b) (mgt a) with h | h
    · rw [decide_eq_true h]; rfl
    · rw [decide_eq_true h, Bool.or_true]) zs
  exact h.imp of_decide_eq_true
theorem stk_shown {qs : List Pc} (hq : ∀ q ∈ qs, q.g) : ShP (stkW qs) (stkL qs) qs.length := by
  unfold stkW stkL
  have po := ordM_perm qs
  by_cases h1 : 1 < ((srtM qs).filter tpB).length
  · rw [if_pos h1, if_pos h1]
    exact .inr (.inl ⟨rfl, by rw [List.length_take]; omega, fun z hz => (List.mem_filter.mp (List.mem_of_mem_take hz)).2⟩)
  · rw [if_neg h1, if_neg h1]
    rcases flt_F (ordM qs) with ⟨e1, e2⟩ | ⟨q, r, w, ms, e1, e2⟩
    · rw [if_pos e1, if_pos e1]
      exact .inl ⟨rfl, po.length_eq, e2⟩
    · rw [if_neg (by rw [e1]; nofun), if_neg (by rw [e1]; nofun), e1]
      have g0 : ∀ p ∈ ordM qs, 0 ≤ p.br := fun p hp => (hq p (po.mem_iff.mp hp)).br.1
      obtain ⟨t1, t2, t3⟩ := fltF_ord (A := (srtM qs).filter fun p => !tpB p) (B := (srtM qs).filter tpB) (fun a ha => by have := (List.mem_filter.mp ha).2; simpa using this) ((srtM_sorted qs).filter _) (by omega) (fun b hb => (List.mem_filter.mp hb).2) g0 e1
      refine .inr (.inr ⟨rfl, ⟨q, List.mem_cons_self .., t1⟩, fun z hz tz => ?_⟩)
      have h1 := t3 z hz tz
      rw [wts_cons]
      unfold mgt at h1
      omega
end LW
namespace LW
open PySem L2 C8 PySem.Spec PyProof.Rows VS
/-! ### the longest nest: ranks and the chain, plain -/
end LW
namespace LW
open PySem L2 C8 PySem.Spec PyProof.Rows VS
/-! ### rows of names, spoilt ones too: what is told of them -/
/-- a list of texts -/
def txs : List D → Option (List Str)
  | [] => some []
  | .str s :: r => (txs r).map (s :: ·)
  | _ :: _ => none
theorem txs_some : ∀ {xs : List D} {zs : List Str}, txs xs = some zs → xs = zs.map D.str
  | [], zs, h => by cases h; rfl
  | d :: r, zs, h => by
    cases d with
    | str s =>
      have h : (txs r).map (s :: ·) = some zs := h
      cases e : txs r with
      | none => rw [e] at h; cases h
      | some ys =>
        rw [e] at h
        cases h
        rw [txs_some e]
        rfl
    | _ => cases h
theorem txs_map : ∀ zs : List Str, txs (zs.map D.str) = some zs
  | [] => rfl
  | z :: r => by
    show (txs (r.map D.str)).map (z :: ·) = _
    rw [txs_map r]
    rfl
theorem txs_all : ∀ xs : List D, ((xs.map (isK "str")).all id) = (txs xs).isSome
  | [] => rfl
  | d :: r => by
    rw [List.map_cons, List.all_cons, txs_all r]
    cases d with
    | str s =>
      show (true && _) = ((txs r).map _).isSome
      rw [Option.isSome_map, Bool.true_and]
    | non => rfl
    | bl b => rfl
    | int i => rfl
    | lst xs => rfl
    | tup xs => rfl
    | dK xs => rfl
    | _ => rfl
/-- so many unlike names, or more -/
def namB (ns : List Str) (n : Int) (xs : List D) : Bool := !decide ((xs.length : Int) < n) && match txs xs with
  | some zs => zs.all (fun z => decide (z ∈ ns)) && decide ((unl zs zs.length : Int) = zs.length)
  | none => false
theorem namB_some {ns : List Str} {n : Int} {xs : List D} (h : namB ns n xs = true) : ∃ zs, xs = zs.map D.str ∧ txs xs = some zs ∧ n ≤ (zs.length : Int) ∧ ∀ z ∈ zs, z ∈ ns := by
  unfold namB at h
  rw [Bool.and_eq_true] at h
  obtain ⟨h1, h2⟩ := h
  cases e : txs xs with
  | none => rw [e] at h2; cases h2
  | some zs =>
    rw [e] at h2
    have h2 : (zs.all (fun z => decide (z ∈ ns)) && decide ((unl zs zs.length : Int) = zs.length)) = true := h2
    rw [Bool.and_eq_true] at h2
    have ex := txs_some e
    refine ⟨zs, ex, rfl, ?_, fun z hz => of_decide_eq_true (List.all_eq_true.mp h2.1 z hz)⟩
    rw [ex, List.length_map] at h1
    simpa using h1
theorem namB_nd {ns zs : List Str} {n : Int} (nd : zs.Nodup) (hin : ∀ z ∈ zs, z ∈ ns) (hn : n ≤ (zs.length : Int)) : namB ns n (zs.map D.str) = true := by
  unfold namB
  rw [txs_map]
  show (_ && (_ && _)) = true
  rw [unl_nodup nd _ (Nat.le_refl _), decide_eq_true rfl, List.all_eq_true.mpr fun z hz => decide_eq_true (hin z hz), List.length_map, decide_eq_false (by omega)]
  rfl
/-- a thing within a row -/
def Nm1 (d : D) : Prop := (∃ s, d = .str s ∧ Asc 19 s) ∨ d ∈ [D.non, .int 7, .bl true, .lst [.str "a"], .tup [.str "a"], .dK []]
def Rw (n : Nat) (d : D) : Prop := (∃ xs : List D, (d = .lst xs ∨ d = .tup xs) ∧ xs.length ≤ n ∧ ∀ x ∈ xs, Nm1 x) ∨ Nm1 d
def Nz (n m : Nat) (d : D) : Prop := (∃ ys : List D, (d = .lst ys ∨ d = .tup ys) ∧ ys.length ≤ m ∧ ∀ y ∈ ys, Rw n y) ∨ Rw n d
theorem Nm1.p {d : D} (h : Nm1 d) : isP d = true := by
  rcases h with ⟨s, rfl, _⟩ | h
  · rfl
  · simp only [List.mem_cons, List.not_mem_nil, or_false] at h
    rcases h with rfl | rfl | rfl | rfl | rfl | rfl <;> rfl
theorem isPL_of : ∀ {xs : List D}, (∀ x ∈ xs, isP x = true) → isPL xs = true
  | [], _ => rfl
  | x :: xs, h => by
    show (isP x && isPL xs) = true
    rw [h x List.mem_cons_self, isPL_of fun y hy => h y (List.mem_cons_of_mem _ hy)]
    rfl
theorem Rw.p {n : Nat} {d : D} (h : Rw n d) : isP d = true := by
  rcases h with ⟨xs, rfl | rfl, _, h⟩ | h
  · exact isPL_of fun x hx => (h x hx).p
  · exact isPL_of fun x hx => (h x hx).p
  · exact h.p
theorem Nz.p {n m : Nat} {d : D} (h : Nz n m d) : isP d = true := by
  rcases h with ⟨xs, rfl | rfl, _, h⟩ | h
  · exact isPL_of fun x hx => (h x hx).p
  · exact isPL_of fun x hx => (h x hx).p
  · exact h.p
theorem Nm1.a : Nm1 (.str "a") := .inl ⟨_, rfl, Asc.lit (by decide)⟩
theorem Rw.row {n : Nat} {xs : List D} (h : Rw n (.lst xs)) : xs.length ≤ n + 1 ∧ ∀ x ∈ xs, Nm1 x := by
  rcases h with ⟨ys, e | e, h1, h2⟩ | ⟨s, e, _⟩ | h
  · cases e; exact ⟨by omega, h2⟩
  · cases e
  · cases e
  · simp only [List.mem_cons, List.not_mem_nil, or_false] at h
    rcases h with h | h | h | h | h | h
    · cases h
    · cases h
    · cases h
    · cases h
      exact ⟨by simp, fun x hx => by rw [List.mem_singleton.mp hx]; exact Nm1.a⟩
    · cases h
    · cases h
theorem Rw.lst {n : Nat} {xs : List D} (hl : xs.length ≤ n) (h : ∀ x ∈ xs, Nm1 x) : Rw n (.lst xs) := .inl ⟨xs, .inl rfl, hl, h⟩
theorem Rw.mono {n m : Nat} {d : D} (h : Rw n d) (a : n ≤ m) : Rw m d := by
  rcases h with ⟨xs, e, h1, h2⟩ | h
  · exact .inl ⟨xs, e, by omega, h2⟩
  · exact .inr h
theorem Nz.lst {n m : Nat} {ys : List D} (hl : ys.length ≤ m) (h : ∀ y ∈ ys, Rw n y) : Nz n m (.lst ys) := .inl ⟨ys, .inl rfl, hl, h⟩
theorem Nz.mono {n m k j : Nat} {d : D} (h : Nz n m d) (a : n ≤ k) (b : m ≤ j) : Nz k j d := by
  rcases h with ⟨xs, e, h1, h2⟩ | h
  · exact .inl ⟨xs, e, by omega, fun y hy => (h2 y hy).mono a⟩
  · exact .inr (h.mono a)
end LW
namespace LW
open PySem L2 C8 PySem.Spec PyProof.Rows VS
/-! ### whether a thing shows a stack, or that there is none -/
def namG (ns : List Str) (n : Int) (d : D) : Bool := isLT d && namB ns n (rowsOf d)
theorem rows_p {d : D} (h : isP d = true) : ∀ x ∈ rowsOf d, isP x = true := by
  cases d with
  | lst xs => exact isPL_mem h
  | tup xs => exact isPL_mem h
  | _ => exact nofun
theorem namG_sq {ps qs : List Pc} {d : D} {n : Int} (sq : SqD d (qs.map Pc.nm)) (so : Some_ ps qs) (hn : n ≤ qs.length) : namG (ps.map Pc.nm) n d = true := by
  unfold namG
  rw [sq.t, sq.r]
  exact namB_nd so.n (fun z hz => by
    obtain ⟨q, hq, rfl⟩ := List.mem_map.mp hz
    exact List.mem_map.mpr ⟨q, so.m q hq, rfl⟩) (by rw [List.length_map]; exact hn)
theorem inD_map (ks : List Str) : ∀ zs : List Str, (zs.map D.str).map (fun d => D.bl (inD d (ks.map D.str))) = (zs.map fun z => decide (z ∈ ks)).map D.bl
  | [] => rfl
  | z :: zs => by
    rw [List.map_cons, List.map_cons, List.map_cons, List.map_cons, inD_map ks zs, inD_strs]
def hevB (zs : List Pc) : Bool := !(zs.filter fun p => !tpB p).isEmpty && (zs.filter fun p => !tpB p).all fun p => decide (mgt p < wts zs)
def skB (w : Str) (zs : List Pc) (n : Nat) : Bool := if w = "stack" then decide (zs.length = n) && isNoD (fltD zs) else if w = "tops" then decide (zs.length = 2) && zs.all tpB else if w = "heavy" then hevB zs else false
def pcs (ps : List Pc) (zs : List Str) : List Pc := zs.filterMap fun z => ps.find? fun p => decide (p.nm = z)
theorem find_pc : ∀ {ps : List Pc} {p : Pc}, (ps.map Pc.nm).Nodup → p ∈ ps → (ps.find? fun q => decide (q.nm = p.nm)) = some p
  | [], _, _, h => by simp at h
  | q :: ps, p, nd, h => by
    rw [List.map_cons, List.nodup_cons] at nd
    rw [List.find?_cons]
    by_cases e : q.nm = p.nm
    · rw [decide_eq_true e]
      rcases List.mem_cons.mp h with h | h
      · rw [h]
      · exact absurd (List.mem_map.mpr ⟨p, h, e.symm⟩) nd.1
    · rw [decide_eq_false e]
      rcases List.mem_cons.mp h with h | h
      · exact absurd (by rw [h]) e
      · exact find_pc nd.2 h
theorem pcs_of {ps : List Pc} (hn : (ps.map Pc.nm).Nodup) : ∀ {qs : List Pc}, (∀ q ∈ qs, q ∈ ps) → pcs ps (qs.map Pc.nm) = qs
  | [], _ => rfl
  | q :: qs, h => by
    have ih := pcs_of hn (qs := qs) fun x hx => h x (List.mem_cons_of_mem _ hx)
    show (List.filterMap (fun z => ps.find? fun p => decide (p.nm = z)) (q.nm :: qs.map Pc.nm)) = _
    rw [List.filterMap_cons, find_pc hn (h q List.mem_cons_self)]
    show q :: pcs ps (qs.map Pc.nm) = _
    rw [ih]
def shkB (ps : List Pc) (ws : List Str) : D → Bool
  | .tup [.str w, .lst xs] => namB (ps.map Pc.nm) 0 xs && (match txs xs with | some zs => zs.all (fun z => decide (z ∈ ws)) && skB w (pcs ps zs) ws.length | none => false)
  | _ => false
/-- a thing that may be handed in -/
def Tk (e : D) : Prop := isP e = true ∧ ∀ x xs, e = .tup [x, .lst xs] → xs.length ≤ 1000
def p_is_stack (CP CS : Addr) : Pt := fun ds S G _ => ∃ (zs : List Pc) (n : Nat), ds = [.lst (zs.map (Pc.d CP CS)), .int (n : Nat)] ∧ (∀ z ∈ zs, z.g) ∧ zs.length ≤ 12 ∧ ∀ S', Ext S S' → G (.bl (decide (zs.length = n) && isNoD (fltD zs))) S'
def p_are_tops (CP CS : Addr) : Pt := fun ds S G _ => ∃ (zs : List Pc) (n : Nat), ds = [.lst (zs.map (Pc.d CP CS)), .int (n : Nat)] ∧ zs.length ≤ 12 ∧ zs.length ≤ n ∧ ∀ S', Ext S S' → G (.bl (decide (zs.length = 2) && zs.all tpB)) S'
def p_are_heavy (CP CS : Addr) : Pt := fun ds S G _ => ∃ (zs : List Pc) (n : Nat), ds = [.lst (zs.map (Pc.d CP CS)), .int (n : Nat)] ∧ zs.length ≤ 12 ∧ zs.length ≤ n ∧ ∀ S', Ext S S' → G (.bl (hevB zs)) S'
def p_shows_stacked (CH CP CS : Addr) : Pt := fun ds S G _ => ∃ (h l : Addr) (ps qs : List Pc) (d e : D), ds = [.ref h, d, e] ∧ HpS S CH CP CS h l ps ∧ Hps ps ∧ SqD d (qs.map Pc.nm) ∧ Some_ ps qs ∧ Tk e ∧ ∀ S', Ext S S' → G (.bl (shkB ps (qs.map Pc.nm) e)) S'
def dNo : D → Bool := fun d => !dTop d
def mgD : D → D
  | .ins _ [_, _, _, (_, .int w), (_, .int b), _] => .int (w + b)
  | d => d
theorem mgD_map (CP CS : Addr) (zs : List Pc) : ((zs.map (Pc.d CP CS)).filter dNo).map mgD = ((zs.filter fun p => !tpB p).map mgt).map D.int := by
  have h := filter_dn CP CS zs
  rw [List.map_id] at h
  show ((zs.map (Pc.d CP CS)).filter fun d => !dTop d).map mgD = _
  rw [h, List.map_map, List.map_map]
  rfl
theorem top_map (CP CS : Addr) : ∀ zs : List Pc, (zs.map (Pc.d CP CS)).map (fun d => D.bl (dTop d)) = (zs.map tpB).map D.bl
  | [] => rfl
  | z :: zs => by
    rw [List.map_cons, List.map_cons, List.map_cons, List.map_cons, top_map CP CS zs, dTop_d]
/-- the look by its word -/
theorem word_key {CP CS f1 f2 f3 : Addr} (w : Str) : (([("stack", f1), ("tops", f2), ("heavy", f3)] : List (Str × Addr)).lookup w = none ∧ ∀ zs n, skB w zs n = false) ∨
    ∃ (f : Addr) (p : Pt), ([("stack", f1), ("tops", f2), ("heavy", f3)] : List (Str × Addr)).lookup w = some f ∧ (f, p) ∈ [(f1, p_is_stack CP CS), (f2, p_are_tops CP CS), (f3, p_are_heavy CP CS)] ∧
      ∀ (zs : List Pc) (n : Nat) (S : Sto) (G : D → Sto → Prop) (Y : Addr → List (Str × D) → Sto → Prop), (∀ z ∈ zs, z.g) → zs.length ≤ 12 → zs.length ≤ n → (∀ S', Ext S S' → G (.bl (skB w zs n)) S') → p [.lst (zs.map (Pc.d CP CS)), .int (n : Nat)] S G Y := by
  by_cases h1 : w = "stack"
  · subst h1
    exact .inr ⟨f1, _, rfl, .head _, fun zs n S G Y h1 h2 h3 q => ⟨zs, n, rfl, h1, h2, q⟩⟩
  by_cases h2 : w = "tops"
  · subst h2
    exact .inr ⟨f2, _, rfl, .tail _ (.head _), fun zs n S G Y h1 h2 h3 q => ⟨zs, n, rfl, h2, h3, q⟩⟩
  by_cases h3 : w = "heavy"
  · subst h3
    exact .inr ⟨f3, _, rfl, .tail _ (.tail _ (.head _)), fun zs n S G Y h1 h2 h3 q => ⟨zs, n, rfl, h2, h3, q⟩⟩
  · refine .inl ⟨?_, fun zs n => ?_⟩
    · rw [List.lookup_cons, List.lookup_cons, List.lookup_cons, beq_eq_false_iff_ne.mpr h1, beq_eq_false_iff_ne.mpr h2, beq_eq_false_iff_ne.mpr h3]
      rfl
    · unfold skB
      rw [if_neg h1, if_neg h2, if_neg h3]
theorem shk_nt {ps : List Pc} {ws : List Str} {ys : List D} (h : ys.length ≠ 2) : shkB ps ws (.tup ys) = false := by
  rcases ys with _ | ⟨a, _ | ⟨b, _ | ⟨c, r⟩⟩⟩
  · rfl
  · cases a <;> rfl
  · exact absurd rfl h
  · cases a <;> cases b <;> rfl
theorem some_names {ws : List Str} {ps : List Pc} (h : ∀ z ∈ ws, z ∈ ps.map Pc.nm) (n : ws.Nodup) : ∃ qs : List Pc, qs.map Pc.nm = ws ∧ Some_ ps qs := some_of h n
theorem unl_full {xs : List Str} : ∀ i, i ≤ xs.length → unl xs i = i → (xs.take i).Nodup
  | 0, _, _ => .nil
  | i + 1, hi, h => by
    unfold unl at h
    have le := unl_le (xs := xs) i
    have e : xs[i]? = some xs[i] := List.getElem?_eq_getElem (by omega)
    cases ha : (xs.take i).any (· == xs.getD i Str.empty) with
    | true => rw [ha, cond_true] at h; omega
    | false =>
      rw [ha, cond_false] at h
      have ih := unl_full (xs := xs) i (by omega) (by omega)
      rw [List.take_succ, e, List.nodup_append]
      refine ⟨ih, by simp, fun a h1 b h2 z => ?_⟩
      have h2 : b = xs[i] := by simpa using h2
      have : (xs.take i).any (· == xs.getD i Str.empty) = true := List.any_eq_true.mpr ⟨a, h1, by rw [VS.getD_at (show i < xs.length by omega), z, h2]; exact beq_self_eq_true _⟩
      rw [ha] at this
      cases this
theorem namB_nd' {ns zs : List Str} {n : Int} (h : namB ns n (zs.map D.str) = true) : zs.Nodup := by
  unfold namB at h
  rw [txs_map, Bool.and_eq_true] at h
  have h2 : (zs.all (fun z => decide (z ∈ ns)) && decide ((unl zs zs.length : Int) = zs.length)) = true := h.2
  rw [Bool.and_eq_true, decide_eq_true_eq] at h2
  have := unl_full zs.length (Nat.le_refl _) (by omega)
  rw [List.take_length] at this
  exact this
section
variable {P : Program} {w : World} {K : PySem.W.Frag} {mg : Str → Option Value} {base : Heap}
theorem ok_is_stack {f : Addr} {fd : FuncData} {C_Sides C_Parcel C_Heap C_NoSide C_NoNames : Addr} {f_fault_of : Addr} {g_fault_of : FuncData}
    (F : Fd K "is_stack" "is_stack" s_is_stack [] f fd) (T : Tx K mg) (hsys : SysOk base)
    (c_fault_of : Cf P w K mg base (L2.CX P w) 3 "fault_of" s_fault_of [] a_fault_of (p_fault_of C_Parcel C_Sides) f_fault_of g_fault_of)
    (k_Parcel : Kl_Parcel K mg C_Parcel)
    (k_Sides : Kl_Sides K mg C_Sides) :
    FnG P w K mg base (L2.CX P w) 4 f fd a_is_stack (spOf K (p_is_stack C_Parcel C_Sides)) := by
  refine VS.unbox ?_
  simp (disch := with_unfolding_all
    have kc_Parcel := k_Parcel.ins.cl
    have ka_Parcel_called := k_Parcel.a_called
    have ka_Parcel_outside := k_Parcel.a_outside
    have ka_Parcel_thick := k_Parcel.a_thick
    have ka_Parcel_heavy := k_Parcel.a_heavy
    have ka_Parcel_strong := k_Parcel.a_strong
    have ka_Parcel_marks := k_Parcel.a_marks
    have ka_Parcel_told := k_Parcel.a_told
    have ka_Parcel_names := k_Parcel.a_names
    have kc_Sides := k_Sides.ins.cl
    have ka_Sides_three := k_Sides.a_three
    refine fn_val F sc_is_stack (fun ds S G Y h => ?_) (fun cdv A hgd outer s H E hr px tk po ds S G Y h => ?_)
    · obtain ⟨zs, n, rfl, _⟩ := h
      rfl
    · obtain ⟨zs, n, rfl, hg, hl, q⟩ := h
      refine ⟨_, (pss_one (ps_ret (pe_and (pe_cmpR op_eq (pe_callB c_len (by rfl) T.b_len (by decide +kernel) (pa_cons (pv 0) pa_nil)) (pv 1) (nomark _)) (pe_one (pe_cmpR op_isNo (pe_cG c_fault_of.fn hgd (hr.mono (by decide)) (by rfl) c_fault_of.mg c_fault_of.kp c_fault_of.b .nil VS.pass0 (pa_cons (pv 0) pa_nil)) pe_non (nomark _)))))), ?_⟩
      (try dsimp only [cxOf, List.map])
      show VX _ _ [_, _] _ _
      walk_at "gr"
      have ez : decide (((zs.map (Pc.d C_Parcel C_Sides)).length : Int) = (n : Int)) = decide (zs.length = n) := by
        rw [List.length_map]
        exact decide_eq_decide.mpr ⟨fun h => by omega, fun h => by omega⟩
      rw [ez]
      refine ⟨fun e => ?_, fun e => ?_⟩
      · rw [e] at q
        walk_at "gr"
        refine ⟨zs, rfl, hg, hl, fun S' x => ?_⟩
        walk_at "gr"
        exact q _ x
      · rw [e] at q
        exact q _ .refl) only [↓VS.box]
theorem ok_are_tops {f : Addr} {fd : FuncData} {C_Sides C_Parcel C_Heap C_NoSide C_NoNames : Addr} {f_is_top : Addr} {g_is_top : FuncData}
    (F : Fd K "are_tops" "are_tops" s_are_tops [] f fd) (T : Tx K mg) (hsys : SysOk base)
    (c_is_top : Cf P w K mg base (L2.CX P w) 2 "is_top" s_is_top [] a_is_top (p_is_top C_Parcel C_Sides) f_is_top g_is_top)
    (k_Parcel : Kl_Parcel K mg C_Parcel)
    (k_Sides : Kl_Sides K mg C_Sides) :
    FnG P w K mg base (L2.CX P w) 3 f fd a_are_tops (spOf K (p_are_tops C_Parcel C_Sides)) := by
  refine VS.unbox ?_
  simp (disch := with_unfolding_all
    have kc_Parcel := k_Parcel.ins.cl
    have ka_Parcel_called := k_Parcel.a_called
    have ka_Parcel_outside := k_Parcel.a_outside
    have ka_Parcel_thick := k_Parcel.a_thick
    have ka_Parcel_heavy := k_Parcel.a_heavy
    have ka_Parcel_strong := k_Parcel.a_strong
    have ka_Parcel_marks := k_Parcel.a_marks
    have ka_Parcel_told := k_Parcel.a_told
    have ka_Parcel_names := k_Parcel.a_names
    have kc_Sides := k_Sides.ins.cl
    have ka_Sides_three := k_Sides.a_three
    refine fn_val F sc_are_tops (fun ds S G Y h => ?_) (fun cdv A hgd outer s H E hr px tk po ds S G Y h => ?_)
    · obtain ⟨zs, n, rfl, _⟩ := h
      rfl
    · obtain ⟨zs, n, rfl, hl, hn, q⟩ := h
      refine ⟨_, (pss_one (ps_ret (pe_and (pe_cmpR op_gt (pv 1) pe_int (nomark _)) (pe_and (pe_cmpR op_eq (pe_callB c_len (by rfl) T.b_len (by decide +kernel) (pa_cons (pv 0) pa_nil)) pe_int (nomark _)) (pe_one (pe_callB (cr_all rfl) (by rfl) T.b_all (by decide +kernel) (pa_cons (pe_lc (own := [("parcel", 2)]) rfl sc_are_tops.nd (pi_list (pv 0)) (blkOk_by (own := [("parcel", 2)]) (N := n_are_tops) (sc := defScope s_are_tops) (by decide +kernel)) (fun _ _ _ _ _ => (pg_name (i := 2) sc_are_tops.nd rfl (Or.inl rfl))) (fun _ _ _ _ _ => pts_nil) (fun _ _ _ _ _ => (pe_cG c_is_top.fn hgd (hr.mono (by decide)) (by rfl) c_is_top.mg c_is_top.kp c_is_top.b .nil VS.pass0 (pa_cons (pv 2) pa_nil)))) pa_nil))))))), ?_⟩
      (try dsimp only [cxOf, List.map])
      show VX _ _ [_, _, _] _ _
      walk_at "gr"
      refine ⟨fun e1 => ?_, fun e1 => ?_⟩
      · walk_at "gr"
        rw [show decide (((zs.map (Pc.d C_Parcel C_Sides)).length : Int) = 2) = decide (zs.length = 2) from by rw [List.length_map]; exact decide_eq_decide.mpr ⟨fun h => by omega, fun h => by omega⟩]
        refine ⟨fun e2 => ?_, fun e2 => ?_⟩
        · rw [e2] at q
          walk_at "gr"
          refine ve_lcM (fun d => .bl (dTop d)) (vi_list ?_)
          walk_at "gr"
          refine ⟨_, .v, by rw [List.length_map]; omega, fun d hd => ?_, ?_⟩
          · obtain ⟨r, hr, rfl⟩ := List.mem_map.mp hd
            walk_at "gr"
            refine ⟨rfl, ?_⟩
            refine ve_pureR .refl ?_
            walk_at "gr"
            exact is_top_ok fun S3 _ => ⟨rfl, congrArg D.bl (dTop_d _ _ r).symm, rfl⟩
          rw [top_map]
          walk_at "gr"
          refine rc_all .v ?_
          rw [List.all_map]
          exact q _ .refl
        · rw [e2] at q
          exact q _ .refl
      · have e1 := of_decide_eq_false e1
        rw [show decide (zs.length = 2) = false from decide_eq_false (by omega)] at q
        exact q _ .refl) only [↓VS.box]
theorem ok_are_heavy {f : Addr} {fd : FuncData} {C_Sides C_Parcel C_Heap C_NoSide C_NoNames : Addr} {f_might_of f_is_top f_Parcel_weight : Addr} {g_might_of g_is_top g_Parcel_weight : FuncData}
    (F : Fd K "are_heavy" "are_heavy" s_are_heavy [] f fd) (T : Tx K mg) (hsys : SysOk base)
    (c_might_of : Cf P w K mg base (L2.CX P w) 2 "might_of" s_might_of [] a_might_of (p_might_of C_Parcel C_Sides) f_might_of g_might_of)
    (c_is_top : Cf P w K mg base (L2.CX P w) 2 "is_top" s_is_top [] a_is_top (p_is_top C_Parcel C_Sides) f_is_top g_is_top)
    (c_Parcel_weight : Mf P w K mg base 1 C_Parcel "weight" "Parcel.weight" s_Parcel_weight [] a_Parcel_weight (p_Pc_weight C_Parcel C_Sides) f_Parcel_weight g_Parcel_weight)
    (k_Parcel : Kl_Parcel K mg C_Parcel)
    (k_Sides : Kl_Sides K mg C_Sides) :
    FnG P w K mg base (L2.CX P w) 3 f fd a_are_heavy (spOf K (p_are_heavy C_Parcel C_Sides)) := by
  refine VS.unbox ?_
  simp (disch := with_unfolding_all
    have kc_Parcel := k_Parcel.ins.cl
    have ka_Parcel_called := k_Parcel.a_called
    have ka_Parcel_outside := k_Parcel.a_outside
    have ka_Parcel_thick := k_Parcel.a_thick
    have ka_Parcel_heavy := k_Parcel.a_heavy
    have ka_Parcel_strong := k_Parcel.a_strong
    have ka_Parcel_marks := k_Parcel.a_marks
    have ka_Parcel_told := k_Parcel.a_told
    have ka_Parcel_names := k_Parcel.a_names
    have kc_Sides := k_Sides.ins.cl
    have ka_Sides_three := k_Sides.a_three
    refine fn_val F sc_are_heavy (fun ds S G Y h => ?_) (fun cdv A hgd outer s H E hr px tk po ds S G Y h => ?_)
    · obtain ⟨zs, n, rfl, _⟩ := h
      rfl
    · obtain ⟨zs, n, rfl, hl, hn, q⟩ := h
      refine ⟨_, (pss_cons (ps_setLc (i := 2) (own := [("parcel", 3)]) rfl sc_are_heavy.nd rfl rfl (sw_true rfl rfl rfl (by decide +kernel)) (pi_list (pv 0)) (blkOk_by (own := [("parcel", 3)]) (N := n_are_heavy) (sc := defScope s_are_heavy) (by decide +kernel)) (fun _ _ _ _ _ => (pg_name (i := 3) sc_are_heavy.nd rfl (Or.inl rfl))) (fun _ _ _ _ _ => (pts_one (pt_not (pt_val (pe_cG c_is_top.fn hgd (hr.mono (by decide)) (by rfl) c_is_top.mg c_is_top.kp c_is_top.b .nil VS.pass0 (pa_cons (pv 3) pa_nil)))))) (fun _ _ _ _ _ => (pe_cG c_might_of.fn hgd (hr.mono (by decide)) (by rfl) c_might_of.mg c_might_of.kp c_might_of.b .nil VS.pass0 (pa_cons (pv 3) pa_nil))))
        (pss_one (ps_ret (pe_and (pe_chain op_lt op_le pe_int (pe_callB c_len (by rfl) T.b_len (by decide +kernel) (pa_cons (pv 2) pa_nil)) (pv 1)) (pe_one (pe_cmpR op_gt (pe_callB (cr_sum rfl) (by rfl) T.b_sum (by decide +kernel) (pa_cons (pe_lc (own := [("parcel", 3)]) rfl sc_are_heavy.nd (pi_list (pv 0)) (blkOk_by (own := [("parcel", 3)]) (N := n_are_heavy) (sc := defScope s_are_heavy) (by decide +kernel)) (fun _ _ _ _ _ => (pg_name (i := 3) sc_are_heavy.nd rfl (Or.inl rfl))) (fun _ _ _ _ _ => pts_nil) (fun _ _ _ _ _ => (pe_mG0 (pv 3) c_Parcel_weight.cl c_Parcel_weight.me c_Parcel_weight.fn hgd (hr.mono (by decide)) c_Parcel_weight.b .nil VS.pass0))) pa_nil)) (pe_callB (cr_max rfl) (by rfl) T.b_max (by decide +kernel) (pa_cons (pv 2) pa_nil)) (nomark _))))))), ?_⟩
      (try dsimp only [cxOf, List.map])
      show VX _ _ [_, _, _, _] _ _
      walk_at "gr"
      refine ve_lcF dNo mgD (vi_list ?_)
      walk_at "gr"
      refine ⟨_, .v, by rw [List.length_map]; omega, fun d hd => ?_, ?_⟩
      · obtain ⟨r, hr, rfl⟩ := List.mem_map.mp hd
        refine vgw_name (by simp) ?_
        refine vt_pureR .refl ?_
        walk_at "gr"
        refine is_top_ok fun S3 _ => ⟨_, rfl, congrArg Bool.not (dTop_d _ _ r).symm, fun _ => rfl, fun _ => ?_⟩
        walk_at "gr"
        exact ⟨r, rfl, rfl, rfl⟩
      rw [mgD_map]
      have lp : (zs.filter fun p => !tpB p).length ≤ zs.length := List.length_filter_le ..
      walk_at "gr"
      refine ⟨fun e1 => ?_, fun e1 => ?_⟩
      · walk_at "gr"
        have e1 := of_decide_eq_true e1
        rw [List.length_map, List.length_map] at e1
        refine ⟨fun e2 => ?_, fun e2 => ?_⟩
        · walk_at "gr"
          refine ve_lcM wtD (vi_list ?_)
          walk_at "gr"
          refine ⟨_, .v, by rw [List.length_map]; omega, fun d hd => ?_, ?_⟩
          · obtain ⟨r, hr, rfl⟩ := List.mem_map.mp hd
            walk_at "gr"
            exact ⟨rfl, by walk_at "gr"; exact ⟨rfl, rfl⟩⟩
          rw [wtD_map]
          walk_at "gr"
          refine rc_sum .v ?_
          walk_at "gr"
          refine rc_maxL (ns := (zs.filter fun p => !tpB p).map mgt) .v (fun z => by rw [List.map_eq_nil_iff] at z; rw [z] at e1; exact absurd e1 (by decide)) fun m mm mx => ?_
          walk_at "gr"
          rw [show decide (m < (zs.map Pc.wt).sum) = hevB zs from ?_]
          · exact q _ .refl
          · unfold hevB
            rw [show (zs.filter fun p => !tpB p).isEmpty = false from by
              cases h : zs.filter fun p => !tpB p with
              | nil => rw [h] at e1; exact absurd e1 (by decide)
              | cons => rfl]
            rw [Bool.eq_iff_iff, decide_eq_true_eq]
            show _ ↔ (zs.filter fun p => !tpB p).all (fun p => decide (mgt p < wts zs)) = true
            rw [List.all_eq_true]
            constructor
            · intro h x hx
              have := mx _ (List.mem_map.mpr ⟨x, hx, rfl⟩)
              refine decide_eq_true ?_
              show mgt x < (zs.map Pc.wt).sum
              omega
            · intro h
              obtain ⟨x, hx, rfl⟩ := List.mem_map.mp mm
              exact of_decide_eq_true (h x hx)
        · have e2 := of_decide_eq_false e2
          rw [List.length_map, List.length_map] at e2
          omega
      · have e1 := of_decide_eq_false e1
        rw [List.length_map, List.length_map] at e1
        have : hevB zs = false := by
          unfold hevB
          rw [List.eq_nil_of_length_eq_zero (l := zs.filter fun p => !tpB p) (by omega)]
          rfl
        rw [this] at q
        exact ⟨_, rfl, nofun, fun _ => q _ .refl⟩) only [↓VS.box]
end
end LW
namespace LW
open PySem L2 C8 PySem.Spec PyProof.Rows VS
/-! ### what are no names is refused, by each of the four -/
/-- what is no row of unlike names of those known -/
inductive BadN (K : PySem.W.Frag) (S : Sto) (ks : List Str) : D → Prop
  | d {d d' : D} (h : Da S d d') (l : (rowsOf d').length ≤ 1000) (b : namG ks 0 d' = false) : BadN K S ks d
  | o {d : D} {C : Addr} {fs : List (Str × D)} (i : IsI S d C fs) (c : InsC K C) (k1 : PySem.W.kitOne K (.ref C) (.type "list") = some false) (k2 : PySem.W.kitOne K (.ref C) (.type "tuple") = some false) : BadN K S ks d
def p_are_names40 (K : PySem.W.Frag) (CH CP CS : Addr) : Pt := fun ds S G _ => ∃ (h l : Addr) (ps : List Pc) (d : D) (n : Int), ds = [.ref h, d, .int n] ∧ HpS S CH CP CS h l ps ∧ ps.length ≤ 12 ∧
  ((∃ d', Da S d d' ∧ (rowsOf d').length ≤ 1000 ∧ G (.bl (namG (ps.map Pc.nm) n d')) S) ∨ (∃ (C : Addr) (fs : List (Str × D)), IsI S d C fs ∧ InsC K C ∧ PySem.W.kitOne K (.ref C) (.type "list") = some false ∧ PySem.W.kitOne K (.ref C) (.type "tuple") = some false ∧ G (.bl false) S))
def p_need_names40 (K : PySem.W.Frag) (CH CP CS CN : Addr) : Pt := fun ds S G Y => (∃ (h l : Addr) (ps qs : List Pc) (d : D), ds = [.ref h, d] ∧ HpS S CH CP CS h l ps ∧ ps.length ≤ 12 ∧ SqD d (qs.map Pc.nm) ∧ Some_ ps qs ∧ G .non S) ∨
  (∃ (h l : Addr) (ps : List Pc) (d : D), ds = [.ref h, d] ∧ HpS S CH CP CS h l ps ∧ ps.length ≤ 12 ∧ BadN K S (ps.map Pc.nm) d ∧ Y CN [("found", d)] S)
def bad2 (K : PySem.W.Frag) (CH CP CS CN : Addr) : Pt := fun ds S _ Y => ∃ (h l : Addr) (ps : List Pc) (d : D), ds = [.ref h, d] ∧ HpS S CH CP CS h l ps ∧ ps.length ≤ 12 ∧ BadN K S (ps.map Pc.nm) d ∧ Y CN [("found", d)] S
def bad3 (K : PySem.W.Frag) (CH CP CS CN : Addr) : Pt := fun ds S _ Y => ∃ (h l : Addr) (ps : List Pc) (d e : D), ds = [.ref h, d, e] ∧ HpS S CH CP CS h l ps ∧ ps.length ≤ 12 ∧ BadN K S (ps.map Pc.nm) d ∧ Y CN [("found", d)] S
def p_stack_fault40 (K : PySem.W.Frag) (CH CP CS CN : Addr) : Pt := fun ds S G Y => p_stack_fault CH CP CS ds S G Y ∨ bad2 K CH CP CS CN ds S G Y
def p_heights40 (K : PySem.W.Frag) (CH CP CS CN : Addr) : Pt := fun ds S G Y => p_heights CH CP CS ds S G Y ∨ bad2 K CH CP CS CN ds S G Y
def p_stacked40 (K : PySem.W.Frag) (CH CP CS CN : Addr) : Pt := fun ds S G Y => p_stacked CH CP CS ds S G Y ∨ bad2 K CH CP CS CN ds S G Y
def p_shows_stacked40 (K : PySem.W.Frag) (CH CP CS CN : Addr) : Pt := fun ds S G Y => p_shows_stacked CH CP CS ds S G Y ∨ bad3 K CH CP CS CN ds S G Y
theorem ve_lcSqM {c : VS.Ctx} {ρ : Rho} {S : Sto} {F : D → Sto → Prop} (f : D → D) {g : TG} {tt : TT} {te : TE} {vs : List Nat} {i : Nat} {d d' : D} (hv : ρ[i]? = some (some d)) (hd : Da S d d') (t : isLT d' = true) (hz : (rowsOf d').length ≤ 100000)
    (hs : ∀ S', ∀ x ∈ rowsOf d', VGw c vs g x (wipeR ρ vs) S' fun ρ3 S3 => VT c tt ρ3 S3 fun b S4 => b = true ∧ VE c te ρ3 S4 fun y S5 => y = f x ∧ S5 = S') (hF : F (.lst ((rowsOf d').map f)) S) : VE c (tLc (iSeqA c.K (tVar i)) g tt te vs) ρ S F := by
  cases hd with
  | v p => exact ve_lcM f (vi_seq (ve_var hv ⟨_, isS_of t, hz, hs S, hF⟩))
  | c h p => exact ve_lcCellSqM f (ve_var hv ⟨rfl, rfl⟩) h hz (hs _) hF
  | k h p => cases t
section
variable {P : Program} {w : World} {K : PySem.W.Frag} {mg : Str → Option Value} {base : Heap}
theorem ok_are_names {f : Addr} {fd : FuncData} {C_Sides C_Parcel C_Heap C_NoSide C_NoNames : Addr} {f_Heap_names : Addr} {g_Heap_names : FuncData}
    (F : Fd K "are_names" "are_names" s_are_names [] f fd) (T : Tx K mg) (hsys : SysOk base)
    (c_Heap_names : Mf P w K mg base 2 C_Heap "names" "Heap.names" s_Heap_names [] a_Heap_names (p_Hp_names C_Heap C_Parcel C_Sides) f_Heap_names g_Heap_names)
    (k_Heap : Kl_Heap K mg C_Heap)
    (k_Parcel : Kl_Parcel K mg C_Parcel)
    (k_Sides : Kl_Sides K mg C_Sides) :
    FnG P w K mg base (L2.CX P w) 3 f fd a_are_names (spOf K (p_are_names40 K C_Heap C_Parcel C_Sides)) := by
  refine VS.unbox ?_
  simp (disch := with_unfolding_all
    have kc_Heap := k_Heap.ins.cl
    have ka_Heap_held := k_Heap.a_held
    have ka_Heap_told := k_Heap.a_told
    have ka_Heap_kind := k_Heap.a_kind
    have kc_Parcel := k_Parcel.ins.cl
    have ka_Parcel_called := k_Parcel.a_called
    have ka_Parcel_outside := k_Parcel.a_outside
    have ka_Parcel_thick := k_Parcel.a_thick
    have ka_Parcel_heavy := k_Parcel.a_heavy
    have ka_Parcel_strong := k_Parcel.a_strong
    have ka_Parcel_marks := k_Parcel.a_marks
    have ka_Parcel_told := k_Parcel.a_told
    have ka_Parcel_names := k_Parcel.a_names
    have kc_Sides := k_Sides.ins.cl
    have ka_Sides_three := k_Sides.a_three
    refine fn_val F sc_are_names (fun ds S G Y h => ?_) (fun cdv A hgd outer s H E hr px tk po ds S G Y h => ?_)
    · obtain ⟨h, l, ps, d, n, rfl, _⟩ := h
      rfl
    · obtain ⟨h, l, ps, d, n, rfl, hs, hl, q⟩ := h
      refine ⟨_, (pss_cons (ps_if (PW.pt (pw_or (pt_not (pt_val (pe_callB c_isiV (by rfl) T.b_isinstance (by decide +kernel) (pa_cons (pv 1) (pa_cons (pe_tup (pa_cons (pe_bltn (v := .ty "list") (by rfl) T.b_list (by decide +kernel) rfl) (pa_cons (pe_bltn (v := .ty "tuple") (by rfl) T.b_tuple (by decide +kernel) rfl) pa_nil))) pa_nil))))) (pw_or1 (pt_cmpR op_lt (pe_callB c_len (by rfl) T.b_len (by decide +kernel) (pa_cons (pv 1) pa_nil)) (pv 2) (nomark _))))) (pss_one (ps_ret pe_bl))
        pss_nil)
        (pss_cons (ps_if (pt_not (pt_val (pe_callB (cr_all rfl) (by rfl) T.b_all (by decide +kernel) (pa_cons (pe_lc (own := [("name", 4)]) rfl sc_are_names.nd (pi_seq (pv 1)) (blkOk_by (own := [("name", 4)]) (N := n_are_names) (sc := defScope s_are_names) (by decide +kernel)) (fun _ _ _ _ _ => (pg_name (i := 4) sc_are_names.nd rfl (Or.inl rfl))) (fun _ _ _ _ _ => pts_nil) (fun _ _ _ _ _ => (pe_callB (kC (K := K) (r := rIsiZ) c_isiZ) (by rfl) T.b_isinstance (by decide +kernel) (pa_cons (pv 4) (pa_cons (pe_bltn (v := .ty "str") (by rfl) T.b_str (by decide +kernel) rfl) pa_nil))))) pa_nil)))) (pss_one (ps_ret pe_bl))
        pss_nil)
        (pss_cons (ps_set (i := 3) sc_are_names.nd rfl (Or.inr rfl) (pe_mG0 (pv 0) c_Heap_names.cl c_Heap_names.me c_Heap_names.fn hgd (hr.mono (by decide)) c_Heap_names.b .nil VS.pass0))
        (pss_one (ps_ret (pe_and (pe_callB (cr_all rfl) (by rfl) T.b_all (by decide +kernel) (pa_cons (pe_lc (own := [("name", 4)]) rfl sc_are_names.nd (pi_seq (pv 1)) (blkOk_by (own := [("name", 4)]) (N := n_are_names) (sc := defScope s_are_names) (by decide +kernel)) (fun _ _ _ _ _ => (pg_name (i := 4) sc_are_names.nd rfl (Or.inl rfl))) (fun _ _ _ _ _ => pts_nil) (fun _ _ _ _ _ => (pe_cmpR (kO (K := K) (r := (fun K => rIn K false)) op_in_seq) (pv 4) (pv 3) (by rfl)))) pa_nil)) (pe_one (pe_cmpR op_eq (pe_lenS (by rfl) T.b_len (by rfl) T.b_set (pv 1)) (pe_callB c_len (by rfl) T.b_len (by decide +kernel) (pa_cons (pv 1) pa_nil)) (nomark _))))))))), ?_⟩
      (try dsimp only [cxOf, List.map])
      show VX _ _ [_, _, _, _, _] _ _
      have c1 := hs.1
      walk_at "gr"
      rcases q with ⟨d', hd, xl, q⟩ | ⟨C, fs, i, c, k1, k2, q⟩
      · refine rc_isiLT hd ?_
        unfold namG at q
        cases e0 : isLT d' with
        | false =>
          rw [e0] at q
          walk_at "gr"
          exact q
        | true =>
        rw [e0, Bool.true_and] at q
        have iq : IsQ S d (rowsOf d') := hd.isQ e0
        have hp := rows_p hd.p
        walk_at "gr"
        refine rc_lenQ iq ?_
        walk_at "gr"
        unfold namB at q
        refine VS.br (fun z => ?_) (fun z => ?_)
        · rw [decide_eq_true z] at q
          walk_at "gr"
          exact q
        rw [decide_eq_false z] at q
        walk_at "gr"
        refine ve_lcSqM (fun d => .bl (isK "str" d)) rfl hd e0 (by omega) (fun S' x hx => ?_) ?_
        · walk_at "gr"
          refine ⟨rfl, ?_⟩
          walk_at "gr"
          refine rc_isiD (.v (hp x hx)) (isK_str (hp x hx)) ?_
          exact ⟨rfl, rfl⟩
        walk_at "gr"
        refine rc_all (bs := (rowsOf d').map (isK "str")) (by rw [List.map_map]; exact .v) ?_
        rw [txs_all]
        cases e : txs (rowsOf d') with
        | none =>
          rw [e] at q
          walk_at "gr"
          exact q
        | some zs =>
          rw [e] at q
          have ex := txs_some e
          walk_at "gr"
          refine ⟨h, l, ps, rfl, hs, hl, ?_⟩
          walk_at "gr"
          refine ve_lcSqM (fun d => .bl (inD d ((ps.map Pc.nm).map D.str))) rfl hd e0 (by omega) (fun S' x hx => ?_) ?_
          · rw [ex] at hx
            obtain ⟨z, hz, rfl⟩ := List.mem_map.mp hx
            walk_at "gr"
            refine ⟨rfl, ?_⟩
            walk_at "gr"
            refine rv_in (.l .v) rfl (flat_strs _) ?_
            exact ⟨rfl, rfl⟩
          rw [ex] at iq xl ⊢
          walk_at "gr"
          refine rc_all (bs := zs.map fun z => decide (z ∈ ps.map Pc.nm)) ?_ ?_
          · rw [inD_map]
            exact .v
          rw [List.all_map, show (id ∘ fun z => decide (z ∈ ps.map Pc.nm)) = fun z => decide (z ∈ ps.map Pc.nm) from rfl]
          have q : G (.bl (!false && (zs.all (fun z => decide (z ∈ ps.map Pc.nm)) && decide ((unl zs zs.length : Int) = zs.length)))) S := q
          refine ⟨_, rfl, fun e1 => ?_, fun e1 => ?_⟩
          · rw [e1] at q
            rw [List.length_map] at xl
            walk_at "gr"
            refine ve_lenS ?_
            walk_at "gr"
            refine ⟨zs, iq, xl, ?_⟩
            walk_at "gr"
            refine rc_lenQ iq ?_
            walk_at "gr"
            rw [List.length_map]
            exact q
          · rw [e1] at q
            exact q
      · have pw : Paired ClsD [D.ty "list", .ty "tuple"] [.type "list", .type "tuple"] := .cons (.ty _) (.cons (.ty _) .nil)
        refine rc_isiV (.i i c) pw (kit_two k1 k2) ?_
        walk_at "gr"
        exact q) only [↓VS.box]
theorem ok_need_names {f : Addr} {fd : FuncData} {C_Sides C_Parcel C_Heap C_NoSide C_NoNames : Addr} {f_are_names : Addr} {g_are_names : FuncData}
    (F : Fd K "need_names" "need_names" s_need_names [] f fd) (T : Tx K mg) (hsys : SysOk base)
    (c_are_names : Cf P w K mg base (L2.CX P w) 3 "are_names" s_are_names [] a_are_names (p_are_names40 K C_Heap C_Parcel C_Sides) f_are_names g_are_names)
    (x_NoNames : Xc P w K mg base "NoNames" C_NoNames "found")
    (k_Heap : Kl_Heap K mg C_Heap)
    (k_Parcel : Kl_Parcel K mg C_Parcel)
    (k_Sides : Kl_Sides K mg C_Sides) :
    FnG P w K mg base (L2.CX P w) 4 f fd a_need_names (spOf K (p_need_names40 K C_Heap C_Parcel C_Sides C_NoNames)) := by
  refine VS.unbox ?_
  simp (disch := with_unfolding_all
    have kc_Heap := k_Heap.ins.cl
    have ka_Heap_held := k_Heap.a_held
    have ka_Heap_told := k_Heap.a_told
    have ka_Heap_kind := k_Heap.a_kind
    have kc_Parcel := k_Parcel.ins.cl
    have ka_Parcel_called := k_Parcel.a_called
    have ka_Parcel_outside := k_Parcel.a_outside
    have ka_Parcel_thick := k_Parcel.a_thick
    have ka_Parcel_heavy := k_Parcel.a_heavy
    have ka_Parcel_strong := k_Parcel.a_strong
    have ka_Parcel_marks := k_Parcel.a_marks
    have ka_Parcel_told := k_Parcel.a_told
    have ka_Parcel_names := k_Parcel.a_names
    have kc_Sides := k_Sides.ins.cl
    have ka_Sides_three := k_Sides.a_three
    refine fn_val F sc_need_names (fun ds S G Y h => ?_) (fun cdv A hgd outer s H E hr px tk po ds S G Y h => ?_)
    · rcases h with ⟨h, l, ps, qs, d, rfl, _⟩ | ⟨h, l, ps, d, rfl, _⟩ <;> rfl
    · rcases h with ⟨h, l, ps, qs, d, rfl, hs, hl, sq, so, q⟩ | ⟨h, l, ps, d, rfl, hs, hl, bad, q⟩
      · refine ⟨_, (pss_one (ps_if (pt_not (pt_val (pe_cG c_are_names.fn hgd (hr.mono (by decide)) (by rfl) c_are_names.mg c_are_names.kp c_are_names.b .nil VS.pass0 (pa_cons (pv 0) (pa_cons (pv 1) (pa_cons pe_int pa_nil)))))) (pss_one (ps_rz tk x_NoNames (hr.mono (by decide)) (by rfl) (pv 1)))
        pss_nil)), ?_⟩
        (try dsimp only [cxOf, List.map])
        show VX _ _ [_, _] _ _
        walk_at "gr"
        refine ⟨h, l, ps, d, 0, rfl, hs, hl, .inl ⟨d, .v sq.p, by rw [sq.r, List.length_map, List.length_map]; have := so.len hl; omega, ?_⟩⟩
        rw [namG_sq sq so (Int.natCast_nonneg _)]
        walk_at "gr"
        exact q
      · refine ⟨_, (pss_one (ps_if (pt_not (pt_val (pe_cG c_are_names.fn hgd (hr.mono (by decide)) (by rfl) c_are_names.mg c_are_names.kp c_are_names.b .nil VS.pass0 (pa_cons (pv 0) (pa_cons (pv 1) (pa_cons pe_int pa_nil)))))) (pss_one (ps_rz tk x_NoNames (hr.mono (by decide)) (by rfl) (pv 1)))
        pss_nil)), ?_⟩
        (try dsimp only [cxOf, List.map])
        show VX _ _ [_, _] _ _
        walk_at "gr"
        cases bad with
        | @d d' hd l1 b =>
          refine ⟨h, l, ps, d, 0, rfl, hs, hl, .inl ⟨d', hd, l1, ?_⟩⟩
          rw [b]
          walk_at "gr"
          exact q
        | o i c k1 k2 =>
          refine ⟨h, l, ps, d, 0, rfl, hs, hl, .inr ⟨_, _, i, c, k1, k2, ?_⟩⟩
          walk_at "gr"
          exact q) only [↓VS.box]
theorem ok_stack_fault {f : Addr} {fd : FuncData} {C_Sides C_Parcel C_Heap C_NoSide C_NoNames : Addr} {f_need_names f_Heap_parcel f_fault_of : Addr} {g_need_names g_Heap_parcel g_fault_of : FuncData}
    (F : Fd K "stack_fault" "stack_fault" s_stack_fault [] f fd) (T : Tx K mg) (hsys : SysOk base)
    (c_need_names : Cf P w K mg base (L2.CX P w) 4 "need_names" s_need_names [] a_need_names (p_need_names40 K C_Heap C_Parcel C_Sides C_NoNames) f_need_names g_need_names)
    (c_Heap_parcel : Mf P w K mg base 3 C_Heap "parcel" "Heap.parcel" s_Heap_parcel [] a_Heap_parcel (p_Hp_parcel C_Heap C_Parcel C_Sides) f_Heap_parcel g_Heap_parcel)
    (c_fault_of : Cf P w K mg base (L2.CX P w) 3 "fault_of" s_fault_of [] a_fault_of (p_fault_of C_Parcel C_Sides) f_fault_of g_fault_of)
    (k_Heap : Kl_Heap K mg C_Heap)
    (k_Parcel : Kl_Parcel K mg C_Parcel)
    (k_Sides : Kl_Sides K mg C_Sides) :
    FnG P w K mg base (L2.CX P w) 5 f fd a_stack_fault (spOf K (p_stack_fault40 K C_Heap C_Parcel C_Sides C_NoNames)) := by
  refine VS.unbox ?_
  simp (disch := with_unfolding_all
    have kc_Heap := k_Heap.ins.cl
    have ka_Heap_held := k_Heap.a_held
    have ka_Heap_told := k_Heap.a_told
    have ka_Heap_kind := k_Heap.a_kind
    have kc_Parcel := k_Parcel.ins.cl
    have ka_Parcel_called := k_Parcel.a_called
    have ka_Parcel_outside := k_Parcel.a_outside
    have ka_Parcel_thick := k_Parcel.a_thick
    have ka_Parcel_heavy := k_Parcel.a_heavy
    have ka_Parcel_strong := k_Parcel.a_strong
    have ka_Parcel_marks := k_Parcel.a_marks
    have ka_Parcel_told := k_Parcel.a_told
    have ka_Parcel_names := k_Parcel.a_names
    have kc_Sides := k_Sides.ins.cl
    have ka_Sides_three := k_Sides.a_three
    refine fn_val F sc_stack_fault (fun ds S G Y h => ?_) (fun cdv A hgd outer s H E hr px tk po ds S G Y h => ?_)
    · rcases h with ⟨h, l, ps, qs, d, rfl, _⟩ | ⟨h, l, ps, d, rfl, _⟩ <;> rfl
    · rcases h with ⟨h, l, ps, qs, d, rfl, hs, hp, sq, so, q⟩ | ⟨h, l, ps, d, rfl, hs, hl, bad, q⟩
      · refine ⟨_, (pss_cons (ps_expr (pe_cG c_need_names.fn hgd (hr.mono (by decide)) (by rfl) c_need_names.mg c_need_names.kp c_need_names.b .nil px (pa_cons (pv 0) (pa_cons (pv 1) pa_nil))))
        (pss_one (ps_ret (pe_cG c_fault_of.fn hgd (hr.mono (by decide)) (by rfl) c_fault_of.mg c_fault_of.kp c_fault_of.b .nil VS.pass0 (pa_cons (pe_lc (own := [("name", 2)]) rfl sc_stack_fault.nd (pi_seq (pv 1)) (blkOk_by (own := [("name", 2)]) (N := n_stack_fault) (sc := defScope s_stack_fault) (by decide +kernel)) (fun _ _ _ _ _ => (pg_name (i := 2) sc_stack_fault.nd rfl (Or.inl rfl))) (fun _ _ _ _ _ => pts_nil) (fun _ _ _ _ _ => (pe_mG (pv 0) c_Heap_parcel.cl c_Heap_parcel.me c_Heap_parcel.fn hgd (hr.mono (by decide)) c_Heap_parcel.b .nil VS.pass0 (pa_cons (pv 2) pa_nil)))) pa_nil))))), ?_⟩
        (try dsimp only [cxOf, List.map])
        show VX _ _ [_, _, _] _ _
        walk_at "gr"
        refine .inl ⟨h, l, ps, qs, d, rfl, hs, hp.l, sq, so, ?_⟩
        have c1 := hs.1
        have hp12 := hp.l
        have hq12 := so.len hp.l
        walk_at "gr"
        refine ve_lc (vi_seq ?_)
        walk_at "gr"
        refine ⟨_, sq.s, by rw [List.length_map, List.length_map]; omega, fun i acc S2 => acc = (qs.take i).map (Pc.d C_Parcel C_Sides) ∧ S2 = S, ⟨rfl, rfl⟩, ?_, ?_⟩
        · rintro i dz acc S2 hd ⟨rfl, rfl⟩ _
          rw [List.map_map, List.getElem?_map] at hd
          cases e : qs[i]? with
          | none => rw [e] at hd; cases hd
          | some r =>
            rw [e] at hd
            cases hd
            obtain ⟨k, hk⟩ := List.getElem?_of_mem (so.m r (List.mem_of_getElem? e))
            have fr := Hps.frs hp.n hk
            have tk : qs.take (i + 1) = qs.take i ++ [r] := by rw [List.take_succ, e]; rfl
            walk_at "gr"
            refine ⟨h, l, ps, k, r, rfl, hs, hp.l, fr, ?_⟩
            refine ⟨?_, rfl⟩
            rw [tk, List.map_append]
            rfl
        rintro acc S2 ⟨rfl, rfl⟩ _
        rw [List.length_map, List.length_map, List.take_length]
        walk_at "gr"
        exact ⟨qs, rfl, fun r hr => hp.g r (so.m r hr), hq12, q⟩
      · refine ⟨_, (pss_cons (ps_expr (pe_cG c_need_names.fn hgd (hr.mono (by decide)) (by rfl) c_need_names.mg c_need_names.kp c_need_names.b .nil px (pa_cons (pv 0) (pa_cons (pv 1) pa_nil))))
        (pss_one (ps_ret (pe_cG c_fault_of.fn hgd (hr.mono (by decide)) (by rfl) c_fault_of.mg c_fault_of.kp c_fault_of.b .nil VS.pass0 (pa_cons (pe_lc (own := [("name", 2)]) rfl sc_stack_fault.nd (pi_seq (pv 1)) (blkOk_by (own := [("name", 2)]) (N := n_stack_fault) (sc := defScope s_stack_fault) (by decide +kernel)) (fun _ _ _ _ _ => (pg_name (i := 2) sc_stack_fault.nd rfl (Or.inl rfl))) (fun _ _ _ _ _ => pts_nil) (fun _ _ _ _ _ => (pe_mG (pv 0) c_Heap_parcel.cl c_Heap_parcel.me c_Heap_parcel.fn hgd (hr.mono (by decide)) c_Heap_parcel.b .nil VS.pass0 (pa_cons (pv 2) pa_nil)))) pa_nil))))), ?_⟩
        (try dsimp only [cxOf, List.map])
        show VX _ _ [_, _, _] _ _
        walk_at "gr"
        refine .inr ⟨h, l, ps, d, rfl, hs, hl, bad, ?_⟩
        exact q) only [↓VS.box]
theorem ok_heights {f : Addr} {fd : FuncData} {C_Sides C_Parcel C_Heap C_NoSide C_NoNames : Addr} {f_need_names f_Heap_parcel f_Parcel_sides f_Parcel_labels f_Sides_told : Addr} {g_need_names g_Heap_parcel g_Parcel_sides g_Parcel_labels g_Sides_told : FuncData}
    (F : Fd K "heights" "heights" s_heights [] f fd) (T : Tx K mg) (hsys : SysOk base)
    (c_need_names : Cf P w K mg base (L2.CX P w) 4 "need_names" s_need_names [] a_need_names (p_need_names40 K C_Heap C_Parcel C_Sides C_NoNames) f_need_names g_need_names)
    (c_Heap_parcel : Mf P w K mg base 3 C_Heap "parcel" "Heap.parcel" s_Heap_parcel [] a_Heap_parcel (p_Hp_parcel C_Heap C_Parcel C_Sides) f_Heap_parcel g_Heap_parcel)
    (c_Parcel_sides : Mf P w K mg base 1 C_Parcel "sides" "Parcel.sides" s_Parcel_sides [] a_Parcel_sides (p_Pc_sides C_Parcel C_Sides) f_Parcel_sides g_Parcel_sides)
    (c_Parcel_labels : Mf P w K mg base 1 C_Parcel "labels" "Parcel.labels" s_Parcel_labels [] a_Parcel_labels (p_Pc_labels C_Parcel C_Sides) f_Parcel_labels g_Parcel_labels)
    (c_Sides_told : Mf P w K mg base 1 C_Sides "told" "Sides.told" s_Sides_told [] a_Sides_told (p_told C_Sides) f_Sides_told g_Sides_told)
    (k_Heap : Kl_Heap K mg C_Heap)
    (k_Parcel : Kl_Parcel K mg C_Parcel)
    (k_Sides : Kl_Sides K mg C_Sides) :
    FnG P w K mg base (L2.CX P w) 5 f fd a_heights (spOf K (p_heights40 K C_Heap C_Parcel C_Sides C_NoNames)) := by
  refine VS.unbox ?_
  simp (disch := with_unfolding_all
    have kc_Heap := k_Heap.ins.cl
    have ka_Heap_held := k_Heap.a_held
    have ka_Heap_told := k_Heap.a_told
    have ka_Heap_kind := k_Heap.a_kind
    have kc_Parcel := k_Parcel.ins.cl
    have ka_Parcel_called := k_Parcel.a_called
    have ka_Parcel_outside := k_Parcel.a_outside
    have ka_Parcel_thick := k_Parcel.a_thick
    have ka_Parcel_heavy := k_Parcel.a_heavy
    have ka_Parcel_strong := k_Parcel.a_strong
    have ka_Parcel_marks := k_Parcel.a_marks
    have ka_Parcel_told := k_Parcel.a_told
    have ka_Parcel_names := k_Parcel.a_names
    have kc_Sides := k_Sides.ins.cl
    have ka_Sides_three := k_Sides.a_three
    refine fn_val F sc_heights (fun ds S G Y h => ?_) (fun cdv A hgd outer s H E hr px tk po ds S G Y h => ?_)
    · rcases h with ⟨h, l, ps, qs, d, rfl, _⟩ | ⟨h, l, ps, d, rfl, _⟩ <;> rfl
    · rcases h with ⟨h, l, ps, qs, d, rfl, hs, hp, sq, so, q⟩ | ⟨h, l, ps, d, rfl, hs, hl, bad, q⟩
      · refine ⟨_, (pss_cons (ps_expr (pe_cG c_need_names.fn hgd (hr.mono (by decide)) (by rfl) c_need_names.mg c_need_names.kp c_need_names.b .nil px (pa_cons (pv 0) (pa_cons (pv 1) pa_nil))))
        (pss_cons (ps_set (i := 2) sc_heights.nd rfl (Or.inl rfl) pe_int)
        (pss_cons (ps_set (i := 3) sc_heights.nd rfl (Or.inl rfl) pe_int)
        (pss_cons (ps_for po rfl (pi_seq (pv 1)) (pg_name (i := 4) sc_heights.nd rfl (Or.inl rfl))
        (pss_cons (ps_set (i := 5) sc_heights.nd rfl (Or.inl rfl) (pe_mG (pv 0) c_Heap_parcel.cl c_Heap_parcel.me c_Heap_parcel.fn hgd (hr.mono (by decide)) c_Heap_parcel.b .nil VS.pass0 (pa_cons (pv 4) pa_nil)))
        (pss_cons (ps_set (i := 6) sc_heights.nd rfl (Or.inl rfl) (pe_mG0 (pe_mG0 (pv 5) c_Parcel_sides.cl c_Parcel_sides.me c_Parcel_sides.fn hgd (hr.mono (by decide)) c_Parcel_sides.b .nil VS.pass0) c_Sides_told.cl c_Sides_told.me c_Sides_told.fn hgd (hr.mono (by decide)) c_Sides_told.b .nil VS.pass0))
        (pss_cons (ps_set (i := 7) sc_heights.nd rfl (Or.inl rfl) (pe_ifExp (pt_cmpR op_in_seq pe_str (pe_mG0 (pv 5) c_Parcel_labels.cl c_Parcel_labels.me c_Parcel_labels.fn hgd (hr.mono (by decide)) c_Parcel_labels.b .nil VS.pass0) (by rfl)) (pe_slice sl_tupA (pv 6) (po_some pe_int) po_none) (pv 6)))
        (pss_cons (ps_aug (i := 2) sc_heights.nd rfl (.inl rfl) (pe_callB (c_minT rfl hr.units) (by rfl) T.b_min (by decide +kernel) (pa_cons (pv 7) pa_nil)) ip_add)
        (pss_one (ps_aug (i := 3) sc_heights.nd rfl (.inl rfl) (pe_callB (c_maxT rfl hr.units) (by rfl) T.b_max (by decide +kernel) (pa_cons (pv 7) pa_nil)) ip_add)))))))
        (pss_one (ps_ret (pe_tup (pa_cons (pv 2) (pa_cons (pv 3) pa_nil))))))))), ?_⟩
        (try dsimp only [cxOf, List.map])
        show VX _ _ [_, _, _, _, _, _, _, _] _ _
        have hq12 := so.len hp.l
        have hp12 := hp.l
        walk_at "gr"
        refine .inl ⟨h, l, ps, qs, d, rfl, hs, hp.l, sq, so, ?_⟩
        walk_at "gr"
        refine vx_for (vi_seq ?_)
        walk_at "gr"
        refine ⟨_, sq.s, fun i ρ2 S2 => Ext S S2 ∧ ∃ x4 x5 x6 x7, ρ2 = [some (.ref h), some d, some (.int ((qs.take i).map Pc.lo).sum), some (.int ((qs.take i).map Pc.hi).sum), x4, x5, x6, x7], ⟨.refl, _, _, _, _, rfl⟩, ?_, ?_⟩
        · rintro i dz _ S2 hd ⟨x, x4, x5, x6, x7, rfl⟩
          rw [List.map_map, List.getElem?_map] at hd
          cases e : qs[i]? with
          | none => rw [e] at hd; cases hd
          | some r =>
            rw [e] at hd
            cases hd
            obtain ⟨k, hk⟩ := List.getElem?_of_mem (so.m r (List.mem_of_getElem? e))
            have fr := Hps.frs hp.n hk
            have hs2 := hs.ext x
            have c1 := hs2.1
            have g := hp.g r (List.mem_of_getElem? hk)
            have tk : qs.take (i + 1) = qs.take i ++ [r] := by rw [List.take_succ, e]; rfl
            have bd : ∀ (f : Pc → Int), (∀ q ∈ ps, 1 ≤ f q ∧ f q ≤ 100000) → ∀ xs : List Pc, (∀ q ∈ xs, q ∈ ps) → 0 ≤ (xs.map f).sum ∧ (xs.map f).sum ≤ 100000 * (xs.length : Int) := by
              intro f hf xs
              induction xs with
              | nil => exact fun _ => ⟨Int.le_refl _, Int.le_refl _⟩
              | cons y ys ih =>
                intro hm
                have h1 := hf y (hm y (List.mem_cons_self ..))
                have h2 := ih fun q hq => hm q (List.mem_cons_of_mem _ hq)
                rw [List.map_cons, List.sum_cons, List.length_cons]
                constructor <;> omega
            walk_at "gr"
            refine ⟨h, l, ps, k, r, rfl, hs2, hp.l, fr, ?_⟩
            walk_at "gr"
            refine ⟨r.nm, r.a, r.b, r.c, r.wl, r.wt, r.br, r.mk, rfl, ?_⟩
            walk_at "gr"
            refine ⟨r.nm, r.a, r.b, r.c, r.wl, r.wt, r.br, r.mk, rfl, fun l2 hl2 => ?_⟩
            have x3 : Ext S (put S2 l2 (.lst (r.mk.map D.str))) := x.trans (Ext.put hl2)
            have c3 : (put S2 l2 (.lst (r.mk.map D.str))) l2 = some (.lst (r.mk.map D.str)) := put_same
            generalize put S2 l2 (.lst (r.mk.map D.str)) = S3 at x3 c3 ⊢
            refine rv_in (.l (.c c3)) rfl (flat_strs _) ?_
            rw [inD_strs]
            have ga := g.a
            have gb := g.b
            have gc := g.c
            unfold In1 at ga gb gc
            have b1 := bd Pc.lo (fun q hq => by
              have a1 := (hp.g q hq).a
              have a2 := (hp.g q hq).b
              have a3 := (hp.g q hq).c
              unfold In1 at a1 a2 a3
              unfold Pc.lo
              split <;> omega) (qs.take i) (fun q hq => so.m q (List.mem_of_mem_take hq))
            have b2 := bd Pc.hi (fun q hq => by
              have a1 := (hp.g q hq).a
              have a2 := (hp.g q hq).b
              have a3 := (hp.g q hq).c
              unfold In1 at a1 a2 a3
              unfold Pc.hi
              split <;> omega) (qs.take i) (fun q hq => so.m q (List.mem_of_mem_take hq))
            have lt : (qs.take i).length ≤ 12 := by rw [List.length_take]; omega
            have fin : ∀ x5 x6 x7, Ext S S3 ∧ ∃ y4 y5 y6 y7, ([some (.ref h), some d, some (.int (((qs.take i).map Pc.lo).sum + r.lo)), some (.int (((qs.take i).map Pc.hi).sum + r.hi)), some (.str r.nm), x5, x6, x7] : Rho) = [some (.ref h), some d, some (.int ((qs.take (i + 1)).map Pc.lo).sum), some (.int ((qs.take (i + 1)).map Pc.hi).sum), y4, y5, y6, y7] := by
              intro x5 x6 x7
              refine ⟨x3, some (.str r.nm), x5, x6, x7, ?_⟩
              rw [tk, List.map_append, List.map_append, List.sum_append, List.sum_append]
              simp
            refine ⟨_, rfl, fun eu => ?_, fun eu => ?_⟩
            · have eu := of_decide_eq_true eu
              walk_at "gr"
              refine vx_augI rfl ?_
              walk_at "gr"
              refine rc_minT (ns := [r.c]) nofun fun m hm hle => ?_
              refine ⟨m, rfl, ?_⟩
              refine vx_augI rfl ?_
              walk_at "gr"
              refine rc_maxT (ns := [r.c]) nofun fun m2 hm2 hge => ?_
              refine ⟨m2, rfl, ?_⟩
              simp only [List.mem_cons, List.not_mem_nil, or_false] at hm hle hm2 hge
              obtain rfl : m = r.lo := by unfold Pc.lo; rw [if_pos eu]; exact hm
              obtain rfl : m2 = r.hi := by unfold Pc.hi; rw [if_pos eu]; exact hm2
              exact fin _ _ _
            · have eu := of_decide_eq_false eu
              walk_at "gr"
              refine vx_augI rfl ?_
              walk_at "gr"
              refine rc_minT (ns := [r.a, r.b, r.c]) nofun fun m hm hle => ?_
              refine ⟨m, rfl, ?_⟩
              refine vx_augI rfl ?_
              walk_at "gr"
              refine rc_maxT (ns := [r.a, r.b, r.c]) nofun fun m2 hm2 hge => ?_
              refine ⟨m2, rfl, ?_⟩
              simp only [List.mem_cons, List.not_mem_nil, or_false] at hm hle hm2 hge
              have e1 := hle r.a (.inl rfl)
              have e2 := hle r.b (.inr (.inl rfl))
              have e3 := hle r.c (.inr (.inr rfl))
              have e4 := hge r.a (.inl rfl)
              have e5 := hge r.b (.inr (.inl rfl))
              have e6 := hge r.c (.inr (.inr rfl))
              obtain rfl : m = r.lo := by unfold Pc.lo; rw [if_neg eu]; omega
              obtain rfl : m2 = r.hi := by unfold Pc.hi; rw [if_neg eu]; omega
              exact fin _ _ _
        · rintro ρ2 S2 ⟨x, x4, x5, x6, x7, rfl⟩
          rw [List.length_map, List.length_map, List.take_length]
          walk_at "gr"
          exact q S2 x
      · refine ⟨_, (pss_cons (ps_expr (pe_cG c_need_names.fn hgd (hr.mono (by decide)) (by rfl) c_need_names.mg c_need_names.kp c_need_names.b .nil px (pa_cons (pv 0) (pa_cons (pv 1) pa_nil))))
        (pss_cons (ps_set (i := 2) sc_heights.nd rfl (Or.inl rfl) pe_int)
        (pss_cons (ps_set (i := 3) sc_heights.nd rfl (Or.inl rfl) pe_int)
        (pss_cons (ps_for po rfl (pi_seq (pv 1)) (pg_name (i := 4) sc_heights.nd rfl (Or.inl rfl))
        (pss_cons (ps_set (i := 5) sc_heights.nd rfl (Or.inl rfl) (pe_mG (pv 0) c_Heap_parcel.cl c_Heap_parcel.me c_Heap_parcel.fn hgd (hr.mono (by decide)) c_Heap_parcel.b .nil VS.pass0 (pa_cons (pv 4) pa_nil)))
        (pss_cons (ps_set (i := 6) sc_heights.nd rfl (Or.inl rfl) (pe_mG0 (pe_mG0 (pv 5) c_Parcel_sides.cl c_Parcel_sides.me c_Parcel_sides.fn hgd (hr.mono (by decide)) c_Parcel_sides.b .nil VS.pass0) c_Sides_told.cl c_Sides_told.me c_Sides_told.fn hgd (hr.mono (by decide)) c_Sides_told.b .nil VS.pass0))
        (pss_cons (ps_set (i := 7) sc_heights.nd rfl (Or.inl rfl) (pe_ifExp (pt_cmpR op_in_seq pe_str (pe_mG0 (pv 5) c_Parcel_labels.cl c_Parcel_labels.me c_Parcel_labels.fn hgd (hr.mono (by decide)) c_Parcel_labels.b .nil VS.pass0) (by rfl)) (pe_slice sl_tupA (pv 6) (po_some pe_int) po_none) (pv 6)))
        (pss_cons (ps_aug (i := 2) sc_heights.nd rfl (.inl rfl) (pe_callB (c_minT rfl hr.units) (by rfl) T.b_min (by decide +kernel) (pa_cons (pv 7) pa_nil)) ip_add)
        (pss_one (ps_aug (i := 3) sc_heights.nd rfl (.inl rfl) (pe_callB (c_maxT rfl hr.units) (by rfl) T.b_max (by decide +kernel) (pa_cons (pv 7) pa_nil)) ip_add)))))))
        (pss_one (ps_ret (pe_tup (pa_cons (pv 2) (pa_cons (pv 3) pa_nil))))))))), ?_⟩
        (try dsimp only [cxOf, List.map])
        show VX _ _ [_, _, _, _, _, _, _, _] _ _
        walk_at "gr"
        refine .inr ⟨h, l, ps, d, rfl, hs, hl, bad, ?_⟩
        exact q) only [↓VS.box]
theorem ok_stacked {f : Addr} {fd : FuncData} {C_Sides C_Parcel C_Heap C_NoSide C_NoNames : Addr} {f_need_names f_Heap_parcel f_might_of f_is_top f_fault_of f_Parcel_name : Addr} {g_need_names g_Heap_parcel g_might_of g_is_top g_fault_of g_Parcel_name : FuncData}
    (F : Fd K "stacked" "stacked" s_stacked [] f fd) (T : Tx K mg) (hsys : SysOk base)
    (c_need_names : Cf P w K mg base (L2.CX P w) 4 "need_names" s_need_names [] a_need_names (p_need_names40 K C_Heap C_Parcel C_Sides C_NoNames) f_need_names g_need_names)
    (c_Heap_parcel : Mf P w K mg base 3 C_Heap "parcel" "Heap.parcel" s_Heap_parcel [] a_Heap_parcel (p_Hp_parcel C_Heap C_Parcel C_Sides) f_Heap_parcel g_Heap_parcel)
    (c_might_of : Cf P w K mg base (L2.CX P w) 2 "might_of" s_might_of [] a_might_of (p_might_of C_Parcel C_Sides) f_might_of g_might_of)
    (c_is_top : Cf P w K mg base (L2.CX P w) 2 "is_top" s_is_top [] a_is_top (p_is_top C_Parcel C_Sides) f_is_top g_is_top)
    (c_fault_of : Cf P w K mg base (L2.CX P w) 3 "fault_of" s_fault_of [] a_fault_of (p_fault_of C_Parcel C_Sides) f_fault_of g_fault_of)
    (c_Parcel_name : Mf P w K mg base 1 C_Parcel "name" "Parcel.name" s_Parcel_name [] a_Parcel_name (p_Pc_name C_Parcel C_Sides) f_Parcel_name g_Parcel_name)
    (k_Heap : Kl_Heap K mg C_Heap)
    (k_Parcel : Kl_Parcel K mg C_Parcel)
    (k_Sides : Kl_Sides K mg C_Sides) :
    FnG P w K mg base (L2.CX P w) 5 f fd a_stacked (spOf K (p_stacked40 K C_Heap C_Parcel C_Sides C_NoNames)) := by
  refine VS.unbox ?_
  simp (disch := with_unfolding_all
    have kc_Heap := k_Heap.ins.cl
    have ka_Heap_held := k_Heap.a_held
    have ka_Heap_told := k_Heap.a_told
    have ka_Heap_kind := k_Heap.a_kind
    have kc_Parcel := k_Parcel.ins.cl
    have ka_Parcel_called := k_Parcel.a_called
    have ka_Parcel_outside := k_Parcel.a_outside
    have ka_Parcel_thick := k_Parcel.a_thick
    have ka_Parcel_heavy := k_Parcel.a_heavy
    have ka_Parcel_strong := k_Parcel.a_strong
    have ka_Parcel_marks := k_Parcel.a_marks
    have ka_Parcel_told := k_Parcel.a_told
    have ka_Parcel_names := k_Parcel.a_names
    have kc_Sides := k_Sides.ins.cl
    have ka_Sides_three := k_Sides.a_three
    refine fn_val F sc_stacked (fun ds S G Y h => ?_) (fun cdv A hgd outer s H E hr px tk po ds S G Y h => ?_)
    · rcases h with ⟨h, l, ps, qs, d, rfl, _⟩ | ⟨h, l, ps, d, rfl, _⟩ <;> rfl
    · rcases h with ⟨h, l, ps, qs, d, rfl, hs, hp, sq, so, q⟩ | ⟨h, l, ps, d, rfl, hs, hl, bad, q⟩
      · refine ⟨_, (pss_cons (ps_expr (pe_cG c_need_names.fn hgd (hr.mono (by decide)) (by rfl) c_need_names.mg c_need_names.kp c_need_names.b .nil px (pa_cons (pv 0) (pa_cons (pv 1) pa_nil))))
        (pss_cons (ps_set (i := 2) sc_stacked.nd rfl (Or.inl rfl) (pe_callBK (c_sortKR (b := true) c_might_of.fn hgd (hr.mono (by decide)) c_might_of.b) (by rfl) T.b_sorted (by decide +kernel) (pa_cons (pe_lc (own := [("name", 7)]) rfl sc_stacked.nd (pi_seq (pv 1)) (blkOk_by (own := [("name", 7)]) (N := n_stacked) (sc := defScope s_stacked) (by decide +kernel)) (fun _ _ _ _ _ => (pg_name (i := 7) sc_stacked.nd rfl (Or.inl rfl))) (fun _ _ _ _ _ => pts_nil) (fun _ _ _ _ _ => (pe_mG (pv 0) c_Heap_parcel.cl c_Heap_parcel.me c_Heap_parcel.fn hgd (hr.mono (by decide)) c_Heap_parcel.b .nil VS.pass0 (pa_cons (pv 7) pa_nil)))) pa_nil) (pk_cons (pe_gc (v := .ref f_might_of) (by rfl) ⟨_, c_might_of.mg, rfl⟩) (pk_cons pe_bl pk_nil))))
        (pss_cons (ps_setLc (i := 3) (own := [("parcel", 6)]) rfl sc_stacked.nd rfl rfl (sw_true rfl rfl rfl (by decide +kernel)) (pi_list (pv 2)) (blkOk_by (own := [("parcel", 6)]) (N := n_stacked) (sc := defScope s_stacked) (by decide +kernel)) (fun _ _ _ _ _ => (pg_name (i := 6) sc_stacked.nd rfl (Or.inl rfl))) (fun _ _ _ _ _ => (pts_one (pt_val (pe_cG c_is_top.fn hgd (hr.mono (by decide)) (by rfl) c_is_top.mg c_is_top.kp c_is_top.b .nil VS.pass0 (pa_cons (pv 6) pa_nil))))) (fun _ _ _ _ _ => (pv 6)))
        (pss_cons (ps_if (pt_cmpR op_gt (pe_callB c_len (by rfl) T.b_len (by decide +kernel) (pa_cons (pv 3) pa_nil)) pe_int (nomark _)) (pss_one (ps_ret (pe_tup (pa_cons pe_str (pa_cons (pe_lc (own := [("parcel", 6)]) rfl sc_stacked.nd (pi_list (pe_slice sl_list (pv 3) po_none (po_some pe_int))) (blkOk_by (own := [("parcel", 6)]) (N := n_stacked) (sc := defScope s_stacked) (by decide +kernel)) (fun _ _ _ _ _ => (pg_name (i := 6) sc_stacked.nd rfl (Or.inl rfl))) (fun _ _ _ _ _ => pts_nil) (fun _ _ _ _ _ => (pe_mG0 (pv 6) c_Parcel_name.cl c_Parcel_name.me c_Parcel_name.fn hgd (hr.mono (by decide)) c_Parcel_name.b .nil VS.pass0))) pa_nil)))))
        pss_nil)
        (pss_cons (ps_set (i := 2) sc_stacked.nd rfl (Or.inl rfl) (pe_op op_cat (pe_lc (own := [("parcel", 6)]) rfl sc_stacked.nd (pi_list (pv 2)) (blkOk_by (own := [("parcel", 6)]) (N := n_stacked) (sc := defScope s_stacked) (by decide +kernel)) (fun _ _ _ _ _ => (pg_name (i := 6) sc_stacked.nd rfl (Or.inl rfl))) (fun _ _ _ _ _ => (pts_one (pt_not (pt_val (pe_cG c_is_top.fn hgd (hr.mono (by decide)) (by rfl) c_is_top.mg c_is_top.kp c_is_top.b .nil VS.pass0 (pa_cons (pv 6) pa_nil)))))) (fun _ _ _ _ _ => (pv 6))) (pv 3)))
        (pss_cons (ps_setLc (i := 4) (own := [("parcel", 6)]) rfl sc_stacked.nd rfl rfl (sw_true rfl rfl rfl (by decide +kernel)) (pi_list (pv 2)) (blkOk_by (own := [("parcel", 6)]) (N := n_stacked) (sc := defScope s_stacked) (by decide +kernel)) (fun _ _ _ _ _ => (pg_name (i := 6) sc_stacked.nd rfl (Or.inl rfl))) (fun _ _ _ _ _ => pts_nil) (fun _ _ _ _ _ => (pe_mG0 (pv 6) c_Parcel_name.cl c_Parcel_name.me c_Parcel_name.fn hgd (hr.mono (by decide)) c_Parcel_name.b .nil VS.pass0)))
        (pss_cons (ps_set (i := 5) sc_stacked.nd rfl (Or.inl rfl) (pe_cG c_fault_of.fn hgd (hr.mono (by decide)) (by rfl) c_fault_of.mg c_fault_of.kp c_fault_of.b .nil VS.pass0 (pa_cons (pv 2) pa_nil)))
        (pss_cons (ps_if (pt_cmpR op_isNo (pv 5) pe_non (nomark _)) (pss_one (ps_ret (pe_tup (pa_cons pe_str (pa_cons (pv 4) pa_nil)))))
        pss_nil)
        (pss_one (ps_ret (pe_tup (pa_cons pe_str (pa_cons (pe_slice sl_list (pv 4) (po_some (pe_bm PySem.F.plainAttrs_list PySem.F.slot_list_index PySem.F.type_list_index mt_index (pv 4) (pa_cons (pe_ix ix_tup (pv 5) pe_int (fun _ _ => rfl)) pa_nil))) po_none) pa_nil))))))))))))), ?_⟩
        (try dsimp only [cxOf, List.map])
        show VX _ _ [_, _, _, _, _, _, _, _] _ _
        walk_at "gr"
        refine .inl ⟨h, l, ps, qs, d, rfl, hs, hp.l, sq, so, ?_⟩
        have c1 := hs.1
        have hq12 := so.len hp.l
        walk_at "gr"
        refine ve_ckw ?_
        refine va_cons ?_
        refine ve_lc (vi_seq ?_)
        walk_at "gr"
        refine ⟨_, sq.s, by rw [List.length_map, List.length_map]; omega, fun i acc S2 => acc = (qs.take i).map (Pc.d C_Parcel C_Sides) ∧ S2 = S, ⟨rfl, rfl⟩, ?_, ?_⟩
        · rintro i dz acc S2 hd ⟨rfl, rfl⟩ _
          rw [List.map_map, List.getElem?_map] at hd
          cases e : qs[i]? with
          | none => rw [e] at hd; cases hd
          | some r =>
            rw [e] at hd
            cases hd
            have tk : qs.take (i + 1) = qs.take i ++ [r] := by rw [List.take_succ, e]; rfl
            walk_at "gr"
            refine pc_parcel hs hp (so.m r (List.mem_of_getElem? e)) ?_
            refine ⟨?_, rfl⟩
            rw [tk, List.map_append]
            rfl
        rintro acc S2 ⟨rfl, rfl⟩ _
        rw [List.length_map, List.length_map, List.take_length]
        refine va_nil ?_
        refine va_cons ?_
        refine ve_ref ?_
        walk_at "gr"
        refine rck_sortK (ds := qs.map (Pc.d C_Parcel C_Sides)) (ks := (qs.map mgt).map .int) .v (fun K H T ws r => ?_) (by rw [List.length_map, List.length_map, List.length_map]) (alike_ints _) (sortable_ints _) (fun d hd => ?_) (fun i d k h1 h2 => ?_) ?_
        · cases r with
          | cons r1 r2 => cases r2 with
            | cons r2 r3 =>
              cases r1
              cases r2
              cases r3
              rfl
        · obtain ⟨n, _, rfl⟩ := List.mem_map.mp hd
          exact Nat.zero_le _
        · rw [List.getElem?_map] at h1
          rw [List.map_map, List.getElem?_map] at h2
          cases e : qs[i]? with
          | none => rw [e] at h1; cases h1
          | some r =>
            rw [e] at h1 h2
            cases h1
            cases h2
            exact ⟨r, rfl, rfl, rfl⟩
        rw [srtK_M]
        have ls : (srtM qs).length = qs.length := (srtM_perm qs).length_eq
        have gs : ∀ r ∈ srtM qs, r.g := fun r hr => hp.g r (so.m r ((srtM_perm qs).mem_iff.mp hr))
        walk_at "gr"
        refine ve_lcF dTop id (vi_list ?_)
        walk_at "gr"
        refine ⟨_, .v, by rw [List.length_map]; omega, fun d hd => ?_, ?_⟩
        · obtain ⟨r, hr, rfl⟩ := List.mem_map.mp hd
          refine vgw_name (by simp) ?_
          refine vt_pureR .refl ?_
          walk_at "gr"
          refine is_top_ok fun S3 _ => ⟨_, rfl, (dTop_d _ _ r).symm, fun _ => rfl, fun _ => ?_⟩
          walk_at "gr"
          exact ⟨rfl, rfl⟩
        rw [filter_d]
        have l1 : ((srtM qs).filter tpB).length ≤ 12 := Nat.le_trans (List.length_filter_le ..) (by omega)
        have l2 : ((srtM qs).filter fun p => !tpB p).length ≤ 12 := Nat.le_trans (List.length_filter_le ..) (by omega)
        walk_at "gr"
        refine VS.br (fun z => ?_) (fun z => ?_)
        · have z : 1 < ((srtM qs).filter tpB).length := by rw [List.length_map] at z; omega
          have e1 : stkW qs = "tops" := if_pos z
          have e2 : stkL qs = ((srtM qs).filter tpB).take 2 := if_pos z
          rw [e1, e2] at q
          walk_at "gr"
          have ec : VS.cutD (((srtM qs).filter tpB).map (Pc.d C_Parcel C_Sides)) none (some 2) = (((srtM qs).filter tpB).take 2).map (Pc.d C_Parcel C_Sides) := by
            rw [show (some (2 : Int)) = some ((2 : Nat) : Int) from rfl, cut_take _ (by rw [List.length_map]; omega), List.map_take]
          refine ve_lccM nmD (vi_list ?_)
          walk_at "gr"
          refine rs_list .v ?_
          rw [ec]
          refine ⟨_, .v, by rw [List.length_map, List.length_take]; omega, fun d hd => ?_, fun l' hl' => ?_⟩
          · obtain ⟨r, _, rfl⟩ := List.mem_map.mp hd
            walk_at "gr"
            refine ⟨rfl, ?_⟩
            walk_at "gr"
            exact ⟨rfl, rfl⟩
          · rw [nmD_map]
            walk_at "gr"
            exact q l' _ hl' put_same (Ext.put hl')
        have e1 : stkW qs = if fltF (ordM qs) = [] then ("stack" : Str) else ("heavy" : Str) := if_neg (by rw [List.length_map] at z; omega)
        have e2 : stkL qs = if fltF (ordM qs) = [] then ordM qs else fltF (ordM qs) := if_neg (by rw [List.length_map] at z; omega)
        rw [e1, e2] at q
        walk_at "gr"
        refine ve_lcF (fun d => !dTop d) id (vi_list ?_)
        walk_at "gr"
        refine ⟨_, .v, by rw [List.length_map]; omega, fun d hd => ?_, ?_⟩
        · obtain ⟨r, hr, rfl⟩ := List.mem_map.mp hd
          refine vgw_name (by simp) ?_
          refine vt_pureR .refl ?_
          walk_at "gr"
          refine is_top_ok fun S3 _ => ⟨_, rfl, congrArg Bool.not (dTop_d _ _ r).symm, fun _ => rfl, fun _ => ?_⟩
          walk_at "gr"
          exact ⟨rfl, rfl⟩
        rw [filter_dn]
        walk_at "gr"
        refine rv_cat .v .v (by rw [List.length_map, List.length_map]; have := szl; omega) ?_
        rw [← List.map_append]
        have eo : (srtM qs).filter (fun p => !tpB p) ++ (srtM qs).filter tpB = ordM qs := rfl
        rw [eo]
        have lo : (ordM qs).length = qs.length := (ordM_perm qs).length_eq
        have go : ∀ r ∈ ordM qs, r.g := fun r hr => hp.g r (so.m r ((ordM_perm qs).mem_iff.mp hr))
        have no : ((ordM qs).map Pc.nm).Nodup := ((ordM_perm qs).map Pc.nm).nodup_iff.mpr so.n
        clear eo
        walk_at "gr"
        refine ve_lccM nmD (vi_list ?_)
        walk_at "gr"
        refine ⟨_, .v, by rw [List.length_map]; omega, fun d hd => ?_, fun l' hl' => ?_⟩
        · obtain ⟨r, _, rfl⟩ := List.mem_map.mp hd
          walk_at "gr"
          refine ⟨rfl, ?_⟩
          walk_at "gr"
          exact ⟨rfl, rfl⟩
        rw [nmD_map]
        have x1 : Ext S2 (put S2 l' (.lst (((ordM qs).map Pc.nm).map D.str))) := Ext.put hl'
        have c2 : (put S2 l' (.lst (((ordM qs).map Pc.nm).map D.str))) l' = some (.lst (((ordM qs).map Pc.nm).map D.str)) := put_same
        generalize put S2 l' (.lst (((ordM qs).map Pc.nm).map D.str)) = S3 at x1 c2 ⊢
        walk_at "gr"
        refine ⟨ordM qs, rfl, go, by omega, fun S4 x4 => ?_⟩
        have c3 := x4 _ _ c2
        have x5 := x1.trans x4
        rcases flt_F (ordM qs) with ⟨f1, f2⟩ | ⟨fq, fr, fw, fm, f1, f2⟩
        · rw [if_pos f1, if_pos f1] at q
          rw [f2]
          walk_at "gr"
          exact q l' _ hl' c3 x5
        · rw [if_neg (by rw [f1]; nofun), if_neg (by rw [f1]; nofun)] at q
          rw [f2]
          obtain ⟨as, ea⟩ := fltF_suf (ordM qs)
          have ix : ((ordM qs).map Pc.nm)[as.length]? = some fq.nm := by
            rw [ea, f1, List.getElem?_map, List.getElem?_append_right (Nat.le_refl _), Nat.sub_self]
            rfl
          have dr : (ordM qs).drop as.length = fltF (ordM qs) := by
            conv => lhs; rw [ea]
            exact List.drop_left
          have la : as.length ≤ (ordM qs).length := by
            have := congrArg List.length ea
            rw [List.length_append] at this
            omega
          walk_at "gr"
          refine rv_ixT (show atI (D.str fw :: D.str fq.nm :: fm) 1 = some (.str fq.nm) from atI_nat (j := 1) rfl) ?_
          walk_at "gr"
          refine rm_indexS (j := as.length) (.c c3) no ix ?_
          walk_at "gr"
          refine rs_listc (.c c3) fun l3 hl3 => ?_
          rw [cut_drop _ (by rw [List.length_map, List.length_map]; exact la), ← List.map_drop, ← List.map_drop, dr]
          walk_at "gr"
          exact q l3 _ (x5.non' hl3) put_same (x5.trans (Ext.put hl3))
      · refine ⟨_, (pss_cons (ps_expr (pe_cG c_need_names.fn hgd (hr.mono (by decide)) (by rfl) c_need_names.mg c_need_names.kp c_need_names.b .nil px (pa_cons (pv 0) (pa_cons (pv 1) pa_nil))))
        (pss_cons (ps_set (i := 2) sc_stacked.nd rfl (Or.inl rfl) (pe_callBK (c_sortKR (b := true) c_might_of.fn hgd (hr.mono (by decide)) c_might_of.b) (by rfl) T.b_sorted (by decide +kernel) (pa_cons (pe_lc (own := [("name", 7)]) rfl sc_stacked.nd (pi_seq (pv 1)) (blkOk_by (own := [("name", 7)]) (N := n_stacked) (sc := defScope s_stacked) (by decide +kernel)) (fun _ _ _ _ _ => (pg_name (i := 7) sc_stacked.nd rfl (Or.inl rfl))) (fun _ _ _ _ _ => pts_nil) (fun _ _ _ _ _ => (pe_mG (pv 0) c_Heap_parcel.cl c_Heap_parcel.me c_Heap_parcel.fn hgd (hr.mono (by decide)) c_Heap_parcel.b .nil VS.pass0 (pa_cons (pv 7) pa_nil)))) pa_nil) (pk_cons (pe_gc (v := .ref f_might_of) (by rfl) ⟨_, c_might_of.mg, rfl⟩) (pk_cons pe_bl pk_nil))))
        (pss_cons (ps_setLc (i := 3) (own := [("parcel", 6)]) rfl sc_stacked.nd rfl rfl (sw_true rfl rfl rfl (by decide +kernel)) (pi_list (pv 2)) (blkOk_by (own := [("parcel", 6)]) (N := n_stacked) (sc := defScope s_stacked) (by decide +kernel)) (fun _ _ _ _ _ => (pg_name (i := 6) sc_stacked.nd rfl (Or.inl rfl))) (fun _ _ _ _ _ => (pts_one (pt_val (pe_cG c_is_top.fn hgd (hr.mono (by decide)) (by rfl) c_is_top.mg c_is_top.kp c_is_top.b .nil VS.pass0 (pa_cons (pv 6) pa_nil))))) (fun _ _ _ _ _ => (pv 6)))
        (pss_cons (ps_if (pt_cmpR op_gt (pe_callB c_len (by rfl) T.b_len (by decide +kernel) (pa_cons (pv 3) pa_nil)) pe_int (nomark _)) (pss_one (ps_ret (pe_tup (pa_cons pe_str (pa_cons (pe_lc (own := [("parcel", 6)]) rfl sc_stacked.nd (pi_list (pe_slice sl_list (pv 3) po_none (po_some pe_int))) (blkOk_by (own := [("parcel", 6)]) (N := n_stacked) (sc := defScope s_stacked) (by decide +kernel)) (fun _ _ _ _ _ => (pg_name (i := 6) sc_stacked.nd rfl (Or.inl rfl))) (fun _ _ _ _ _ => pts_nil) (fun _ _ _ _ _ => (pe_mG0 (pv 6) c_Parcel_name.cl c_Parcel_name.me c_Parcel_name.fn hgd (hr.mono (by decide)) c_Parcel_name.b .nil VS.pass0))) pa_nil)))))
        pss_nil)
        (pss_cons (ps_set (i := 2) sc_stacked.nd rfl (Or.inl rfl) (pe_op op_cat (pe_lc (own := [("parcel", 6)]) rfl sc_stacked.nd (pi_list (pv 2)) (blkOk_by (own := [("parcel", 6)]) (N := n_stacked) (sc := defScope s_stacked) (by decide +kernel)) (fun _ _ _ _ _ => (pg_name (i := 6) sc_stacked.nd rfl (Or.inl rfl))) (fun _ _ _ _ _ => (pts_one (pt_not (pt_val (pe_cG c_is_top.fn hgd (hr.mono (by decide)) (by rfl) c_is_top.mg c_is_top.kp c_is_top.b .nil VS.pass0 (pa_cons (pv 6) pa_nil)))))) (fun _ _ _ _ _ => (pv 6))) (pv 3)))
        (pss_cons (ps_setLc (i := 4) (own := [("parcel", 6)]) rfl sc_stacked.nd rfl rfl (sw_true rfl rfl rfl (by decide +kernel)) (pi_list (pv 2)) (blkOk_by (own := [("parcel", 6)]) (N := n_stacked) (sc := defScope s_stacked) (by decide +kernel)) (fun _ _ _ _ _ => (pg_name (i := 6) sc_stacked.nd rfl (Or.inl rfl))) (fun _ _ _ _ _ => pts_nil) (fun _ _ _ _ _ => (pe_mG0 (pv 6) c_Parcel_name.cl c_Parcel_name.me c_Parcel_name.fn hgd (hr.mono (by decide)) c_Parcel_name.b .nil VS.pass0)))
        (pss_cons (ps_set (i := 5) sc_stacked.nd rfl (Or.inl rfl) (pe_cG c_fault_of.fn hgd (hr.mono (by decide)) (by rfl) c_fault_of.mg c_fault_of.kp c_fault_of.b .nil VS.pass0 (pa_cons (pv 2) pa_nil)))
        (pss_cons (ps_if (pt_cmpR op_isNo (pv 5) pe_non (nomark _)) (pss_one (ps_ret (pe_tup (pa_cons pe_str (pa_cons (pv 4) pa_nil)))))
        pss_nil)
        (pss_one (ps_ret (pe_tup (pa_cons pe_str (pa_cons (pe_slice sl_list (pv 4) (po_some (pe_bm PySem.F.plainAttrs_list PySem.F.slot_list_index PySem.F.type_list_index mt_index (pv 4) (pa_cons (pe_ix ix_tup (pv 5) pe_int (fun _ _ => rfl)) pa_nil))) po_none) pa_nil))))))))))))), ?_⟩
        (try dsimp only [cxOf, List.map])
        show VX _ _ [_, _, _, _, _, _, _, _] _ _
        walk_at "gr"
        refine .inr ⟨h, l, ps, d, rfl, hs, hl, bad, ?_⟩
        exact q) only [↓VS.box]
theorem ok_shows_stacked {f : Addr} {fd : FuncData} {C_Sides C_Parcel C_Heap C_NoSide C_NoNames : Addr} {f_need_names f_are_names f_Heap_parcel f_is_stack f_are_tops f_are_heavy : Addr} {g_need_names g_are_names g_Heap_parcel g_is_stack g_are_tops g_are_heavy : FuncData}
    (F : Fd K "shows_stacked" "shows_stacked" s_shows_stacked [] f fd) (T : Tx K mg) (hsys : SysOk base)
    (c_need_names : Cf P w K mg base (L2.CX P w) 4 "need_names" s_need_names [] a_need_names (p_need_names40 K C_Heap C_Parcel C_Sides C_NoNames) f_need_names g_need_names)
    (c_are_names : Cf P w K mg base (L2.CX P w) 3 "are_names" s_are_names [] a_are_names (p_are_names40 K C_Heap C_Parcel C_Sides) f_are_names g_are_names)
    (c_Heap_parcel : Mf P w K mg base 3 C_Heap "parcel" "Heap.parcel" s_Heap_parcel [] a_Heap_parcel (p_Hp_parcel C_Heap C_Parcel C_Sides) f_Heap_parcel g_Heap_parcel)
    (c_is_stack : Cf P w K mg base (L2.CX P w) 4 "is_stack" s_is_stack [] a_is_stack (p_is_stack C_Parcel C_Sides) f_is_stack g_is_stack)
    (c_are_tops : Cf P w K mg base (L2.CX P w) 3 "are_tops" s_are_tops [] a_are_tops (p_are_tops C_Parcel C_Sides) f_are_tops g_are_tops)
    (c_are_heavy : Cf P w K mg base (L2.CX P w) 3 "are_heavy" s_are_heavy [] a_are_heavy (p_are_heavy C_Parcel C_Sides) f_are_heavy g_are_heavy)
    {D_SHOWN : Addr} (h_SHOWN : (∃ u, mg "SHOWN" = some u ∧ RelV (.ref D_SHOWN) u) ∧ KDct P w K D_SHOWN [("stack", f_is_stack), ("tops", f_are_tops), ("heavy", f_are_heavy)])
    (k_Heap : Kl_Heap K mg C_Heap)
    (k_Parcel : Kl_Parcel K mg C_Parcel)
    (k_Sides : Kl_Sides K mg C_Sides) :
    FnG P w K mg base (L2.CX P w) 6 f fd a_shows_stacked (spOf K (p_shows_stacked40 K C_Heap C_Parcel C_Sides C_NoNames)) := by
  refine VS.unbox ?_
  simp (disch := with_unfolding_all
    have kc_Heap := k_Heap.ins.cl
    have ka_Heap_held := k_Heap.a_held
    have ka_Heap_told := k_Heap.a_told
    have ka_Heap_kind := k_Heap.a_kind
    have kc_Parcel := k_Parcel.ins.cl
    have ka_Parcel_called := k_Parcel.a_called
    have ka_Parcel_outside := k_Parcel.a_outside
    have ka_Parcel_thick := k_Parcel.a_thick
    have ka_Parcel_heavy := k_Parcel.a_heavy
    have ka_Parcel_strong := k_Parcel.a_strong
    have ka_Parcel_marks := k_Parcel.a_marks
    have ka_Parcel_told := k_Parcel.a_told
    have ka_Parcel_names := k_Parcel.a_names
    have kc_Sides := k_Sides.ins.cl
    have ka_Sides_three := k_Sides.a_three
    refine fn_val F sc_shows_stacked (fun ds S G Y h => ?_) (fun cdv A hgd outer s H E hr px tk po ds S G Y h => ?_)
    · rcases h with ⟨h, l, ps, qs, d, e, rfl, _⟩ | ⟨h, l, ps, d, e, rfl, _⟩ <;> rfl
    · rcases h with ⟨h, l, ps, qs, d, e, rfl, hs, hp, sq, so, tk_, q⟩ | ⟨h, l, ps, d, e, rfl, hs, hl, bad, q⟩
      · refine ⟨_, (pss_cons (ps_expr (pe_cG c_need_names.fn hgd (hr.mono (by decide)) (by rfl) c_need_names.mg c_need_names.kp c_need_names.b .nil px (pa_cons (pv 0) (pa_cons (pv 1) pa_nil))))
        (pss_cons (ps_if (PW.pt (pw_or (pt_not (pt_val (pe_callB c_isiZ (by rfl) T.b_isinstance (by decide +kernel) (pa_cons (pv 2) (pa_cons (pe_bltn (v := .ty "tuple") (by rfl) T.b_tuple (by decide +kernel) rfl) pa_nil))))) (pw_or1 (pt_cmpR op_ne (pe_callB c_len (by rfl) T.b_len (by decide +kernel) (pa_cons (pv 2) pa_nil)) pe_int (nomark _))))) (pss_one (ps_ret pe_bl))
        pss_nil)
        (pss_cons (ps_asg (pv 2) (pg_tup (n := 2) rfl (pgs_cons (pg_name (i := 3) sc_shows_stacked.nd rfl (Or.inl rfl)) (pgs_cons (pg_name (i := 4) sc_shows_stacked.nd rfl (Or.inl rfl)) pgs_nil))))
        (pss_cons (ps_if (PW.pt (pw_or (pt_not (pt_val (pe_callB c_isiZ (by rfl) T.b_isinstance (by decide +kernel) (pa_cons (pv 3) (pa_cons (pe_bltn (v := .ty "str") (by rfl) T.b_str (by decide +kernel) rfl) pa_nil))))) (pw_or (pt_cmpR (op_notInKD h_SHOWN.2) (pv 3) (pe_kd (by rfl) h_SHOWN.1) (by rfl)) (pw_or1 (pt_not (pt_val (pe_callB c_isiZ (by rfl) T.b_isinstance (by decide +kernel) (pa_cons (pv 4) (pa_cons (pe_bltn (v := .ty "list") (by rfl) T.b_list (by decide +kernel) rfl) pa_nil))))))))) (pss_one (ps_ret pe_bl))
        pss_nil)
        (pss_cons (ps_if (PW.pt (pw_or (pt_not (pt_val (pe_cG c_are_names.fn hgd (hr.mono (by decide)) (by rfl) c_are_names.mg c_are_names.kp c_are_names.b .nil VS.pass0 (pa_cons (pv 0) (pa_cons (pv 4) (pa_cons pe_int pa_nil)))))) (pw_or1 (pt_not (pt_val (pe_callB (cr_all rfl) (by rfl) T.b_all (by decide +kernel) (pa_cons (pe_lc (own := [("name", 6)]) rfl sc_shows_stacked.nd (pi_list (pv 4)) (blkOk_by (own := [("name", 6)]) (N := n_shows_stacked) (sc := defScope s_shows_stacked) (by decide +kernel)) (fun _ _ _ _ _ => (pg_name (i := 6) sc_shows_stacked.nd rfl (Or.inl rfl))) (fun _ _ _ _ _ => pts_nil) (fun _ _ _ _ _ => (pe_cmpR (kO (K := K) (r := (fun K => rIn K false)) op_in_seq) (pv 6) (pv 1) (by rfl)))) pa_nil))))))) (pss_one (ps_ret pe_bl))
        pss_nil)
        (pss_cons (ps_set (i := 5) sc_shows_stacked.nd rfl (Or.inl rfl) (pe_ix (ix_kd h_SHOWN.2) (pe_kd (by rfl) h_SHOWN.1) (pv 3) (fun _ _ => rfl)))
        (pss_one (ps_ret (VS.pe_cLG (i := 5) (fs := [(f_is_stack, p_is_stack C_Parcel C_Sides), (f_are_tops, p_are_tops C_Parcel C_Sides), (f_are_heavy, p_are_heavy C_Parcel C_Sides)]) (VS.held_cons (c_is_stack.held (by decide)) (VS.held_cons (c_are_tops.held (by decide)) (VS.held_cons (c_are_heavy.held (by decide)) VS.held_nil))) hgd hr (by rfl) (by first | exact Or.inl rfl | exact Or.inr (Or.inl rfl) | exact Or.inr (Or.inr rfl)) (pa_cons (pe_lc (own := [("name", 6)]) rfl sc_shows_stacked.nd (pi_list (pv 4)) (blkOk_by (own := [("name", 6)]) (N := n_shows_stacked) (sc := defScope s_shows_stacked) (by decide +kernel)) (fun _ _ _ _ _ => (pg_name (i := 6) sc_shows_stacked.nd rfl (Or.inl rfl))) (fun _ _ _ _ _ => pts_nil) (fun _ _ _ _ _ => (pe_mG (pv 0) c_Heap_parcel.cl c_Heap_parcel.me c_Heap_parcel.fn hgd (hr.mono (by decide)) c_Heap_parcel.b .nil VS.pass0 (pa_cons (pv 6) pa_nil)))) (pa_cons (pe_callB c_len (by rfl) T.b_len (by decide +kernel) (pa_cons (pv 1) pa_nil)) pa_nil))))))))))), ?_⟩
        (try dsimp only [cxOf, List.map])
        show VX _ _ [_, _, _, _, _, _, _] _ _
        walk_at "gr"
        refine .inl ⟨h, l, ps, qs, d, rfl, hs, hp.l, sq, so, ?_⟩
        obtain ⟨ep, el⟩ := tk_
        walk_at "gr"
        refine rc_isiD (.v ep) (isK_tuple ep) ?_
        cases e with
        | tup ys =>
          refine ⟨_, rfl, nofun, fun _ => ?_⟩
          walk_at "gr"
          refine ⟨fun nl => ?_, fun hl2 => ?_⟩
          · have nl : ys.length ≠ 2 := fun z => by rw [z] at nl; exact absurd nl (by decide)
            rw [shk_nt nl] at q
            walk_at "gr"
            exact q _ .refl
          obtain ⟨x, y, rfl⟩ : ∃ x y, ys = [x, y] := by
            rcases ys with _ | ⟨a, _ | ⟨b, _ | ⟨c, r⟩⟩⟩
            · exact absurd hl2 (by decide)
            · exact absurd (show (!decide ((1 : Int) = 2)) = false from hl2) (by decide)
            · exact ⟨a, b, rfl⟩
            · exfalso
              have hl2 : (!decide (((a :: b :: c :: r).length : Int) = 2)) = false := hl2
              rw [decide_eq_false (by simp only [List.length_cons]; omega)] at hl2
              cases hl2
          have px : isP x = true := isPL_mem ep x (.head _)
          have py : isP y = true := isPL_mem ep y (.tail _ (.head _))
          walk_at "gr"
          refine rc_isiD (.v px) (isK_str px) ?_
          cases x with
          | str w =>
            refine ⟨_, rfl, nofun, fun _ => ?_⟩
            walk_at "gr"
            refine ve_kd (fun _ _ => .ref _) ?_
            refine rv_inKD ?_
            rcases word_key (CP := C_Parcel) (CS := C_Sides) (f1 := f_is_stack) (f2 := f_are_tops) (f3 := f_are_heavy) w with ⟨e1, e2⟩ | ⟨fw, pw, e1, e2, e3⟩
            · rw [e1]
              have es : shkB ps (qs.map Pc.nm) (.tup [.str w, y]) = false := by
                cases y with
                | lst xs =>
                  show (_ && _) = false
                  cases txs xs with
                  | none => exact Bool.and_false _
                  | some zs =>
                    show (_ && (_ && skB w _ _)) = false
                    rw [e2, Bool.and_false, Bool.and_false]
                | _ => rfl
              rw [es] at q
              walk_at "gr"
              exact q _ .refl
            rw [e1]
            walk_at "gr"
            refine rc_isiD (.v py) (isK_list py) ?_
            cases y with
            | lst xs =>
              refine ⟨_, rfl, nofun, fun _ => ?_⟩
              have xl := el _ _ rfl
              walk_at "gr"
              refine ⟨h, l, ps, .lst xs, 0, rfl, hs, hp.l, .inl ⟨.lst xs, .v py, xl, ?_⟩⟩
              rw [show namG (ps.map Pc.nm) 0 (.lst xs) = namB (ps.map Pc.nm) 0 xs from Bool.true_and _]
              cases enb : namB (ps.map Pc.nm) 0 xs with
              | false =>
                have es : shkB ps (qs.map Pc.nm) (.tup [.str w, .lst xs]) = false := by
                  show (namB (ps.map Pc.nm) 0 xs && _) = false
                  rw [enb]
                  rfl
                rw [es] at q
                walk_at "gr"
                exact q _ .refl
              | true =>
                obtain ⟨zs, rfl, et, _, zin⟩ := namB_some enb
                have znd := namB_nd' enb
                obtain ⟨rs, rfl, sr⟩ := some_names zin znd
                have r12 := sr.len hp.l
                have es : shkB ps (qs.map Pc.nm) (.tup [.str w, .lst ((rs.map Pc.nm).map D.str)]) = ((rs.map Pc.nm).all (fun z => decide (z ∈ qs.map Pc.nm)) && skB w rs (qs.map Pc.nm).length) := by
                  show (namB (ps.map Pc.nm) 0 ((rs.map Pc.nm).map D.str) && (match txs ((rs.map Pc.nm).map D.str) with | some zs => zs.all (fun z => decide (z ∈ qs.map Pc.nm)) && skB w (pcs ps zs) (qs.map Pc.nm).length | none => false)) = _
                  rw [enb, et, Bool.true_and]
                  show (_ && skB w (pcs ps (rs.map Pc.nm)) _) = _
                  rw [pcs_of hp.n sr.m]
                rw [es] at q
                clear es
                walk_at "gr"
                refine ve_lcM (fun d => .bl (inD d ((qs.map Pc.nm).map D.str))) (vi_list ?_)
                walk_at "gr"
                refine ⟨_, .v, by rw [List.length_map, List.length_map]; omega, fun d hd => ?_, ?_⟩
                · obtain ⟨z, hz, rfl⟩ := List.mem_map.mp hd
                  walk_at "gr"
                  refine ⟨rfl, ?_⟩
                  walk_at "gr"
                  refine rv_in sq.q rfl (flat_strs _) ?_
                  exact ⟨rfl, rfl⟩
                rw [inD_map]
                walk_at "gr"
                refine rc_all .v ?_
                rw [List.all_map, show (id ∘ fun z => decide (z ∈ qs.map Pc.nm)) = fun z => decide (z ∈ qs.map Pc.nm) from rfl]
                cases ea : (rs.map Pc.nm).all fun z => decide (z ∈ qs.map Pc.nm) with
                | false =>
                  rw [ea] at q
                  walk_at "gr"
                  exact q _ .refl
                | true =>
                  rw [ea, Bool.true_and] at q
                  walk_at "gr"
                  refine ve_kd (fun _ _ => .ref _) ?_
                  walk_at "gr"
                  refine rv_ixKD e1 ?_
                  walk_at "gr"
                  have c1 := hs.1
                  refine ve_cLG rfl e2 ?_
                  walk_at "gr"
                  refine ve_lc (vi_list ?_)
                  walk_at "gr"
                  refine ⟨_, .v, by rw [List.length_map, List.length_map]; omega, fun i acc S2 => acc = (rs.take i).map (Pc.d C_Parcel C_Sides) ∧ S2 = S, ⟨rfl, rfl⟩, ?_, ?_⟩
                  · rintro i dz acc S2 hd ⟨rfl, rfl⟩ _
                    rw [List.map_map, List.getElem?_map] at hd
                    cases e : rs[i]? with
                    | none => rw [e] at hd; cases hd
                    | some r =>
                      rw [e] at hd
                      cases hd
                      have tk : rs.take (i + 1) = rs.take i ++ [r] := by rw [List.take_succ, e]; rfl
                      walk_at "gr"
                      refine pc_parcel hs hp (sr.m r (List.mem_of_getElem? e)) ?_
                      refine ⟨?_, rfl⟩
                      rw [tk, List.map_append]
                      rfl
                  rintro acc S2 ⟨rfl, rfl⟩ _
                  rw [List.length_map, List.length_map, List.take_length]
                  walk_at "gr"
                  refine rc_lenQ sq.q ?_
                  walk_at "gr"
                  rw [List.length_map]
                  refine e3 rs _ _ _ _ (fun z hz => hp.g z (sr.m z hz)) r12 ?_ q
                  rw [List.length_map, ← List.length_map (f := Pc.nm) (as := rs), ← List.length_map (f := Pc.nm) (as := qs)]
                  exact nodup_len _ _ sr.n fun z hz => of_decide_eq_true (List.all_eq_true.mp ea z hz)
            | _ =>
              refine ⟨_, rfl, fun _ => ?_, nofun⟩
              walk_at "gr"
              exact q _ .refl
          | _ =>
            refine ⟨_, rfl, fun _ => ?_, nofun⟩
            walk_at "gr"
            exact q _ .refl
        | _ =>
          refine ⟨_, rfl, fun _ => ?_, nofun⟩
          walk_at "gr"
          exact q _ .refl
      · refine ⟨_, (pss_cons (ps_expr (pe_cG c_need_names.fn hgd (hr.mono (by decide)) (by rfl) c_need_names.mg c_need_names.kp c_need_names.b .nil px (pa_cons (pv 0) (pa_cons (pv 1) pa_nil))))
        (pss_cons (ps_if (PW.pt (pw_or (pt_not (pt_val (pe_callB c_isiZ (by rfl) T.b_isinstance (by decide +kernel) (pa_cons (pv 2) (pa_cons (pe_bltn (v := .ty "tuple") (by rfl) T.b_tuple (by decide +kernel) rfl) pa_nil))))) (pw_or1 (pt_cmpR op_ne (pe_callB c_len (by rfl) T.b_len (by decide +kernel) (pa_cons (pv 2) pa_nil)) pe_int (nomark _))))) (pss_one (ps_ret pe_bl))
        pss_nil)
        (pss_cons (ps_asg (pv 2) (pg_tup (n := 2) rfl (pgs_cons (pg_name (i := 3) sc_shows_stacked.nd rfl (Or.inl rfl)) (pgs_cons (pg_name (i := 4) sc_shows_stacked.nd rfl (Or.inl rfl)) pgs_nil))))
        (pss_cons (ps_if (PW.pt (pw_or (pt_not (pt_val (pe_callB c_isiZ (by rfl) T.b_isinstance (by decide +kernel) (pa_cons (pv 3) (pa_cons (pe_bltn (v := .ty "str") (by rfl) T.b_str (by decide +kernel) rfl) pa_nil))))) (pw_or (pt_cmpR (op_notInKD h_SHOWN.2) (pv 3) (pe_kd (by rfl) h_SHOWN.1) (by rfl)) (pw_or1 (pt_not (pt_val (pe_callB c_isiZ (by rfl) T.b_isinstance (by decide +kernel) (pa_cons (pv 4) (pa_cons (pe_bltn (v := .ty "list") (by rfl) T.b_list (by decide +kernel) rfl) pa_nil))))))))) (pss_one (ps_ret pe_bl))
        pss_nil)
        (pss_cons (ps_if (PW.pt (pw_or (pt_not (pt_val (pe_cG c_are_names.fn hgd (hr.mono (by decide)) (by rfl) c_are_names.mg c_are_names.kp c_are_names.b .nil VS.pass0 (pa_cons (pv 0) (pa_cons (pv 4) (pa_cons pe_int pa_nil)))))) (pw_or1 (pt_not (pt_val (pe_callB (cr_all rfl) (by rfl) T.b_all (by decide +kernel) (pa_cons (pe_lc (own := [("name", 6)]) rfl sc_shows_stacked.nd (pi_list (pv 4)) (blkOk_by (own := [("name", 6)]) (N := n_shows_stacked) (sc := defScope s_shows_stacked) (by decide +kernel)) (fun _ _ _ _ _ => (pg_name (i := 6) sc_shows_stacked.nd rfl (Or.inl rfl))) (fun _ _ _ _ _ => pts_nil) (fun _ _ _ _ _ => (pe_cmpR (kO (K := K) (r := (fun K => rIn K false)) op_in_seq) (pv 6) (pv 1) (by rfl)))) pa_nil))))))) (pss_one (ps_ret pe_bl))
        pss_nil)
        (pss_cons (ps_set (i := 5) sc_shows_stacked.nd rfl (Or.inl rfl) (pe_ix (ix_kd h_SHOWN.2) (pe_kd (by rfl) h_SHOWN.1) (pv 3) (fun _ _ => rfl)))
        (pss_one (ps_ret (VS.pe_cLG (i := 5) (fs := [(f_is_stack, p_is_stack C_Parcel C_Sides), (f_are_tops, p_are_tops C_Parcel C_Sides), (f_are_heavy, p_are_heavy C_Parcel C_Sides)]) (VS.held_cons (c_is_stack.held (by decide)) (VS.held_cons (c_are_tops.held (by decide)) (VS.held_cons (c_are_heavy.held (by decide)) VS.held_nil))) hgd hr (by rfl) (by first | exact Or.inl rfl | exact Or.inr (Or.inl rfl) | exact Or.inr (Or.inr rfl)) (pa_cons (pe_lc (own := [("name", 6)]) rfl sc_shows_stacked.nd (pi_list (pv 4)) (blkOk_by (own := [("name", 6)]) (N := n_shows_stacked) (sc := defScope s_shows_stacked) (by decide +kernel)) (fun _ _ _ _ _ => (pg_name (i := 6) sc_shows_stacked.nd rfl (Or.inl rfl))) (fun _ _ _ _ _ => pts_nil) (fun _ _ _ _ _ => (pe_mG (pv 0) c_Heap_parcel.cl c_Heap_parcel.me c_Heap_parcel.fn hgd (hr.mono (by decide)) c_Heap_parcel.b .nil VS.pass0 (pa_cons (pv 6) pa_nil)))) (pa_cons (pe_callB c_len (by rfl) T.b_len (by decide +kernel) (pa_cons (pv 1) pa_nil)) pa_nil))))))))))), ?_⟩
        (try dsimp only [cxOf, List.map])
        show VX _ _ [_, _, _, _, _, _, _] _ _
        walk_at "gr"
        refine .inr ⟨h, l, ps, d, rfl, hs, hl, bad, ?_⟩
        exact q) only [↓VS.box]
end
end LW
namespace LW
open PySem L2 C8 PySem.Spec PyProof.Rows VS
/-! ### the law's own look at names -/
def okN (ks : List Str) (d : D) : Bool := isK "str" d && inD d (ks.map D.str)
theorem ve_lcSqF {c : VS.Ctx} {ρ : Rho} {S : Sto} {F : D → Sto → Prop} (p : D → Bool) {g : TG} {tt : TT} {te : TE} {vs : List Nat} {i : Nat} {d d' : D} (hv : ρ[i]? = some (some d)) (hd : Da S d d') (t : isLT d' = true) (hz : (rowsOf d').length ≤ 100000)
    (hs : ∀ S', ∀ x ∈ rowsOf d', VGw c vs g x (wipeR ρ vs) S' fun ρ3 S3 => VT c tt ρ3 S3 fun b S4 => b = p x ∧ S4 = S' ∧ (p x = true → VE c te ρ3 S4 fun y S5 => y = x ∧ S5 = S')) (hF : F (.lst ((rowsOf d').filter p)) S) : VE c (tLc (iSeqA c.K (tVar i)) g tt te vs) ρ S F := by
  have step : ∀ (S' : Sto) (j : Nat) (x : D) (acc : List D) (S2 : Sto), (rowsOf d')[j]? = some x → (acc = ((rowsOf d').take j).filter p ∧ S2 = S') → acc.length ≤ j → VGw c vs g x (wipeR ρ vs) S2 fun ρ3 S3 => VT c tt ρ3 S3 fun b S4 => (b = true → VE c te ρ3 S4 fun y S5 => (acc ++ [y] = ((rowsOf d').take (j + 1)).filter p ∧ S5 = S')) ∧ (b = false → (acc = ((rowsOf d').take (j + 1)).filter p ∧ S4 = S')) := by
    rintro S' j x acc S2 hx ⟨ea, rfl⟩ _ T0 u0 σ0 H0 I0 r0 Q0 k0
    refine hs _ x (List.mem_of_getElem? hx) T0 u0 σ0 H0 I0 r0 Q0 fun σ' ρ' S3 T' H' hw m I' q => k0 σ' ρ' S3 T' H' hw m I' ?_
    have tk : (rowsOf d').take (j + 1) = (rowsOf d').take j ++ [x] := by rw [List.take_succ, hx]; rfl
    refine q.imp fun b S4 ⟨hb, e4, hv⟩ => ⟨fun hb2 => ?_, fun hb2 => ?_⟩
    · have px : p x = true := hb.symm.trans hb2
      exact (hv px).imp fun y S5 ⟨e2, e3⟩ => ⟨by rw [tk, List.filter_append, List.filter_cons_of_pos px, ea, e2]; rfl, e3⟩
    · have px : ¬ p x = true := by rw [← hb, hb2]; decide
      exact ⟨by rw [tk, List.filter_append, List.filter_cons_of_neg px, List.filter_nil, List.append_nil]; exact ea, e4⟩
  cases hd with
  | v ip => exact ve_lc (vi_seq (ve_var hv ⟨_, isS_of t, hz, fun j acc S2 => acc = ((rowsOf d).take j).filter p ∧ S2 = S, ⟨rfl, rfl⟩, step S, fun acc S2 ⟨e1, e2⟩ _ => by rw [e1, e2, List.take_length]; exact hF⟩))
  | @c l xs h ip => exact ve_lcCellSq (ve_var hv ⟨rfl, rfl⟩) h hz (fun j acc S2 => acc = (xs.take j).filter p ∧ S2 = VS.del S l) ⟨rfl, rfl⟩ (step _) fun acc S2 ⟨e1, e2⟩ _ => by rw [e1, e2, List.take_length, put_back h]; exact hF
  | k h ip => cases t
theorem okN_all (ks : List Str) : ∀ xs : List D, (xs.filter fun d => !okN ks d).isEmpty = (match txs xs with | some zs => zs.all (fun z => decide (z ∈ ks)) | none => false) := by
  intro xs
  induction xs with
  | nil => rfl
  | cons d r ih =>
    rw [List.filter_cons]
    cases d with
    | str s =>
      show (if (!(true && inD (.str s) (ks.map D.str))) = true then _ else _ : List D).isEmpty = _
      rw [inD_strs, Bool.true_and]
      have e : txs (.str s :: r) = (txs r).map (s :: ·) := rfl
      rw [e]
      by_cases hs : s ∈ ks
      · rw [decide_eq_true hs]
        show (r.filter _).isEmpty = _
        rw [ih]
        cases txs r with
        | none => rfl
        | some zs =>
          show _ = (decide (s ∈ ks) && _)
          rw [decide_eq_true hs, Bool.true_and]
      · rw [decide_eq_false hs]
        show false = _
        cases txs r with
        | none => rfl
        | some zs =>
          show false = (decide (s ∈ ks) && _)
          rw [decide_eq_false hs]
          rfl
    | _ => rfl
theorem namB_all (ks : List Str) : ∀ xs : List D, namB ks 0 xs = ((xs.filter fun d => !okN ks d).isEmpty && decide ((unl ((txs xs).getD []) ((txs xs).getD []).length : Int) = xs.length)) := by
  intro xs
  unfold namB
  rw [decide_eq_false (by omega)]
  rw [okN_all]
  cases e : txs xs with
  | none => rfl
  | some zs =>
    show (true && (_ && _)) = (_ && decide ((unl zs zs.length : Int) = xs.length))
    rw [Bool.true_and, txs_some e, List.length_map]
/-- what is none stays none with one thing more -/
theorem namB_more {ks : List Str} {xs : List D} {m : Str} (h : namB ks 0 xs = false) : namB ks 0 (xs ++ [.str m]) = false := by
  cases hb : namB ks 0 (xs ++ [.str m]) with
  | false => rfl
  | true =>
    obtain ⟨zs, ez, _, _, hz⟩ := namB_some hb
    rw [ez] at hb
    have nd := namB_nd' hb
    obtain ⟨ys, e1⟩ : ∃ ys, zs = ys ++ [m] := by
      have hne : zs ≠ [] := fun z => by rw [z] at ez; simp at ez
      have := congrArg List.getLast? ez
      rw [List.getLast?_append, List.getLast?_map] at this
      have : some (D.str m) = zs.getLast?.map D.str := this
      rw [List.getLast?_eq_some_getLast hne] at this
      have e : zs.getLast hne = m := by
        have := Option.some.inj this
        exact (D.str.inj this).symm
      exact ⟨zs.dropLast, by rw [← e]; exact (List.dropLast_concat_getLast hne).symm⟩
    rw [e1, List.map_append] at ez
    have ex : xs = ys.map D.str := List.append_inj_left' ez rfl
    rw [e1] at nd hz
    rw [ex, namB_nd (List.nodup_append.mp nd).1 (fun z h => hz z (List.mem_append_left _ h)) (by omega)] at h
    cases h
def p__law_good (K : PySem.W.Frag) : Pt := fun ds S G _ => ∃ (ks : List Str) (d : D), ds = [.lst (ks.map D.str), d] ∧ ks.length ≤ 12 ∧
  ((∃ d', Da S d d' ∧ (rowsOf d').length ≤ 1000 ∧ G (.bl (namG ks 0 d')) S) ∨ (∃ (C : Addr) (fs : List (Str × D)), IsI S d C fs ∧ InsC K C ∧ PySem.W.kitOne K (.ref C) (.type "list") = some false ∧ PySem.W.kitOne K (.ref C) (.type "tuple") = some false ∧ G (.bl false) S))
section
variable {P : Program} {w : World} {K : PySem.W.Frag} {mg : Str → Option Value} {base : Heap}
theorem ok__law_good {f : Addr} {fd : FuncData} {C_Sides C_Parcel C_Heap C_NoSide C_NoNames : Addr}
    (F : Fd K "_law_good" "_law_good" s__law_good [] f fd) (T : Tx K mg) (hsys : SysOk base) :
    FnG P w K mg base (L2.CX P w) 1 f fd a__law_good (spOf K (p__law_good K)) := by
  refine VS.unbox ?_
  simp (disch := with_unfolding_all
    refine fn_val F sc__law_good (fun ds S G Y h => ?_) (fun cdv A hgd outer s H E hr px tk po ds S G Y h => ?_)
    · obtain ⟨ks, d, rfl, _⟩ := h
      rfl
    · obtain ⟨ks, d, rfl, k12, q⟩ := h
      refine ⟨_, (pss_cons (ps_if (pt_not (pt_val (pe_callB c_isiV (by rfl) T.b_isinstance (by decide +kernel) (pa_cons (pv 1) (pa_cons (pe_tup (pa_cons (pe_bltn (v := .ty "list") (by rfl) T.b_list (by decide +kernel) rfl) (pa_cons (pe_bltn (v := .ty "tuple") (by rfl) T.b_tuple (by decide +kernel) rfl) pa_nil))) pa_nil))))) (pss_one (ps_ret pe_bl))
        pss_nil)
        (pss_cons (ps_if (pt_cmpR (op_neE hr) (pe_lc (own := [("_law_one", 2)]) rfl sc__law_good.nd (pi_seq (pv 1)) (blkOk_by (own := [("_law_one", 2)]) (N := n__law_good) (sc := defScope s__law_good) (by decide +kernel)) (fun _ _ _ _ _ => (pg_name (i := 2) sc__law_good.nd rfl (Or.inl rfl))) (fun _ _ _ _ _ => (pts_one (PW.pt (pw_or (pt_not (pt_val (pe_callB (kC (K := K) (r := rIsiZ) c_isiZ) (by rfl) T.b_isinstance (by decide +kernel) (pa_cons (pv 2) (pa_cons (pe_bltn (v := .ty "str") (by rfl) T.b_str (by decide +kernel) rfl) pa_nil))))) (pw_or1 (pt_cmpR (kO (K := K) (r := (fun K => rIn K true)) op_notIn_seq) (pv 2) (pv 0) (by rfl))))))) (fun _ _ _ _ _ => (pv 2))) (pe_lst pa_nil) (nomark _)) (pss_one (ps_ret pe_bl))
        pss_nil)
        (pss_one (ps_ret (pe_cmpR op_eq (pe_lenS (by rfl) T.b_len (by rfl) T.b_set (pv 1)) (pe_callB c_len (by rfl) T.b_len (by decide +kernel) (pa_cons (pv 1) pa_nil)) (nomark _)))))), ?_⟩
      (try dsimp only [cxOf, List.map])
      show VX _ _ [_, _, _] _ _
      walk_at "gr"
      rcases q with ⟨d', hd, xl, q⟩ | ⟨C, fs, i, c, k1, k2, q⟩
      · refine rc_isiLT hd ?_
        unfold namG at q
        cases e0 : isLT d' with
        | false =>
          rw [e0] at q
          walk_at "gr"
          exact q
        | true =>
        rw [e0, Bool.true_and] at q
        have iq : IsQ S d (rowsOf d') := hd.isQ e0
        have hp := rows_p hd.p
        rw [namB_all] at q
        walk_at "gr"
        refine ve_lcSqF (fun d => !okN ks d) rfl hd e0 (by omega) (fun S' x hx => ?_) ?_
        · walk_at "gr"
          refine rc_isiD (.v (hp x hx)) (isK_str (hp x hx)) ?_
          cases x with
          | str s =>
            refine ⟨_, rfl, nofun, fun _ => ?_⟩
            walk_at "gr"
            refine rv_in (neg := true) (.l .v) rfl (flat_strs _) ?_
            refine ⟨_, rfl, rfl, rfl, fun _ => ?_⟩
            walk_at "gr"
            exact ⟨rfl, rfl⟩
          | _ =>
            refine ⟨_, rfl, fun _ => ⟨rfl, rfl, fun _ => ?_⟩, nofun⟩
            walk_at "gr"
            exact ⟨rfl, rfl⟩
        walk_at "gr"
        refine ve_lst ?_
        walk_at "gr"
        refine ⟨fun ef => ?_, fun ef => ?_⟩
        · have ef : ((rowsOf d').filter fun d => !okN ks d).isEmpty = false := by
            rw [Bool.not_eq_true'] at ef
            exact ef
          rw [ef] at q
          walk_at "gr"
          exact q
        · have ef : ((rowsOf d').filter fun d => !okN ks d).isEmpty = true := by
            rw [Bool.not_eq_false'] at ef
            exact ef
          rw [ef] at q
          rw [okN_all] at ef
          cases e : txs (rowsOf d') with
          | none => rw [e] at ef; cases ef
          | some zs =>
            rw [e] at q
            have ex := txs_some e
            rw [ex] at iq xl q
            rw [List.length_map] at xl
            walk_at "gr"
            refine ve_lenS ?_
            walk_at "gr"
            refine ⟨zs, iq, xl, ?_⟩
            walk_at "gr"
            refine rc_lenQ iq ?_
            walk_at "gr"
            exact q
      · have pw : Paired ClsD [D.ty "list", .ty "tuple"] [.type "list", .type "tuple"] := .cons (.ty _) (.cons (.ty _) .nil)
        refine rc_isiV (.i i c) pw (kit_two k1 k2) ?_
        walk_at "gr"
        exact q) only [↓VS.box]
end
end LW
namespace LW
open PySem L2 C8 PySem.Spec PyProof.Rows VS
/-! ### the four looks, called by names -/
def p_look40 (K : PySem.W.Frag) (CH CP CS CN : Addr) : Pt := fun ds S G Y =>
  (∃ (h l : Addr) (ps qs : List Pc) (d e : D) (wy : Int), ds = [.ref h, .int wy, d, e] ∧ HpS S CH CP CS h l ps ∧ Hps ps ∧ SqD d (qs.map Pc.nm) ∧ Some_ ps qs ∧ Tk e ∧ (wy = 0 ∨ wy = 1 ∨ wy = 2 ∨ wy = 3) ∧
    ∀ r S', Ext S S' → (wy = 2 → r = .bl (shkB ps (qs.map Pc.nm) e)) → G r S') ∨
  (∃ (h l : Addr) (ps : List Pc) (d e : D) (wy : Int), ds = [.ref h, .int wy, d, e] ∧ HpS S CH CP CS h l ps ∧ ps.length ≤ 12 ∧ BadN K S (ps.map Pc.nm) d ∧ (wy = 0 ∨ wy = 1 ∨ wy = 2 ∨ wy = 3) ∧ Y CN [("found", d)] S)
def p_asked40 (K : PySem.W.Frag) (CH CP CS : Addr) : Pt := fun ds S G _ =>
  (∃ (h l : Addr) (ps qs : List Pc) (d e : D) (wy : Int), ds = [.ref h, .int wy, d, e] ∧ HpS S CH CP CS h l ps ∧ Hps ps ∧ SqD d (qs.map Pc.nm) ∧ Some_ ps qs ∧ Tk e ∧ (wy = 0 ∨ wy = 1 ∨ wy = 2 ∨ wy = 3) ∧
    ∀ r S', Ext S S' → (wy = 2 → r = .bl (shkB ps (qs.map Pc.nm) e)) → G (.tup [.str "told", r]) S') ∨
  (∃ (h l : Addr) (ps : List Pc) (d e : D) (wy : Int), ds = [.ref h, .int wy, d, e] ∧ HpS S CH CP CS h l ps ∧ ps.length ≤ 12 ∧ BadN K S (ps.map Pc.nm) d ∧ (wy = 0 ∨ wy = 1 ∨ wy = 2 ∨ wy = 3) ∧ G (.tup [.str "names", d]) S)
section
variable {P : Program} {w : World} {K : PySem.W.Frag} {mg : Str → Option Value} {base : Heap}
theorem ok__law_look {f : Addr} {fd : FuncData} {C_Sides C_Parcel C_Heap C_NoSide C_NoNames : Addr} {f_stack_fault f_stacked f_shows_stacked f_heights : Addr} {g_stack_fault g_stacked g_shows_stacked g_heights : FuncData}
    (F : Fd K "_law_look" "_law_look" s__law_look [] f fd) (T : Tx K mg) (hsys : SysOk base)
    (c_stack_fault : Cf P w K mg base (L2.CX P w) 5 "stack_fault" s_stack_fault [] a_stack_fault (p_stack_fault40 K C_Heap C_Parcel C_Sides C_NoNames) f_stack_fault g_stack_fault)
    (c_stacked : Cf P w K mg base (L2.CX P w) 5 "stacked" s_stacked [] a_stacked (p_stacked40 K C_Heap C_Parcel C_Sides C_NoNames) f_stacked g_stacked)
    (c_shows_stacked : Cf P w K mg base (L2.CX P w) 6 "shows_stacked" s_shows_stacked [] a_shows_stacked (p_shows_stacked40 K C_Heap C_Parcel C_Sides C_NoNames) f_shows_stacked g_shows_stacked)
    (c_heights : Cf P w K mg base (L2.CX P w) 5 "heights" s_heights [] a_heights (p_heights40 K C_Heap C_Parcel C_Sides C_NoNames) f_heights g_heights)
    (k_Heap : Kl_Heap K mg C_Heap)
    (k_Parcel : Kl_Parcel K mg C_Parcel)
    (k_Sides : Kl_Sides K mg C_Sides) :
    FnG P w K mg base (L2.CX P w) 7 f fd a__law_look (spOf K (p_look40 K C_Heap C_Parcel C_Sides C_NoNames)) := by
  refine VS.unbox ?_
  simp (disch := with_unfolding_all
    have kc_Heap := k_Heap.ins.cl
    have ka_Heap_held := k_Heap.a_held
    have ka_Heap_told := k_Heap.a_told
    have ka_Heap_kind := k_Heap.a_kind
    have kc_Parcel := k_Parcel.ins.cl
    have ka_Parcel_called := k_Parcel.a_called
    have ka_Parcel_outside := k_Parcel.a_outside
    have ka_Parcel_thick := k_Parcel.a_thick
    have ka_Parcel_heavy := k_Parcel.a_heavy
    have ka_Parcel_strong := k_Parcel.a_strong
    have ka_Parcel_marks := k_Parcel.a_marks
    have ka_Parcel_told := k_Parcel.a_told
    have ka_Parcel_names := k_Parcel.a_names
    have kc_Sides := k_Sides.ins.cl
    have ka_Sides_three := k_Sides.a_three
    refine fn_val F sc__law_look (fun ds S G Y h => ?_) (fun cdv A hgd outer s H E hr px tk po ds S G Y h => ?_)
    · rcases h with ⟨h, l, ps, qs, d, e, wy, rfl, _⟩ | ⟨h, l, ps, d, e, wy, rfl, _⟩ <;> rfl
    · rcases h with ⟨h, l, ps, qs, d, e, wy, rfl, hs, hp, sq, so, tke, hw, q⟩ | ⟨h, l, ps, d, e, wy, rfl, hs, hl, bad, hw, q⟩
      · refine ⟨_, (pss_cons (ps_if (pt_cmpR op_eq (pv 1) pe_int (nomark _)) (pss_one (ps_ret (pe_cGK0 c_stack_fault.fn hgd (hr.mono (by decide)) (by rfl) c_stack_fault.mg c_stack_fault.kp (kbn c_stack_fault.df 0 ["names", "heap"] [1, 0] (fun _ _ _ _ _ _ us ws h1 h2 => match us, ws, h1, h2 with | [], [_, _], _, _ => rfl)) px (pk_cons (pv 2) (pk_cons (pv 0) pk_nil)))))
        pss_nil)
        (pss_cons (ps_if (pt_cmpR op_eq (pv 1) pe_int (nomark _)) (pss_one (ps_ret (pe_cGK0 c_stacked.fn hgd (hr.mono (by decide)) (by rfl) c_stacked.mg c_stacked.kp (kbn c_stacked.df 0 ["names", "heap"] [1, 0] (fun _ _ _ _ _ _ us ws h1 h2 => match us, ws, h1, h2 with | [], [_, _], _, _ => rfl)) px (pk_cons (pv 2) (pk_cons (pv 0) pk_nil)))))
        pss_nil)
        (pss_cons (ps_if (pt_cmpR op_eq (pv 1) pe_int (nomark _)) (pss_one (ps_ret (pe_cGK0 c_shows_stacked.fn hgd (hr.mono (by decide)) (by rfl) c_shows_stacked.mg c_shows_stacked.kp (kbn c_shows_stacked.df 0 ["thing", "names", "heap"] [2, 1, 0] (fun _ _ _ _ _ _ us ws h1 h2 => match us, ws, h1, h2 with | [], [_, _, _], _, _ => rfl)) px (pk_cons (pv 3) (pk_cons (pv 2) (pk_cons (pv 0) pk_nil))))))
        pss_nil)
        (pss_one (ps_ret (pe_cGK0 c_heights.fn hgd (hr.mono (by decide)) (by rfl) c_heights.mg c_heights.kp (kbn c_heights.df 0 ["names", "heap"] [1, 0] (fun _ _ _ _ _ _ us ws h1 h2 => match us, ws, h1, h2 with | [], [_, _], _, _ => rfl)) px (pk_cons (pv 2) (pk_cons (pv 0) pk_nil)))))))), ?_⟩
        (try dsimp only [cxOf, List.map])
        show VX _ _ [_, _, _, _] _ _
        rcases hw with rfl | rfl | rfl | rfl
        · walk_at "gr"
          refine ve_kw (.same fun _ _ _ h => h) ?_
          walk_at "gr"
          refine ⟨rfl, rfl, ?_⟩
          refine .inl ⟨h, l, ps, qs, d, rfl, hs, hp, sq, so, fun S' x => q _ S' x fun z => absurd z (by decide)⟩
        · walk_at "gr"
          refine ve_kw (.same fun _ _ _ h => h) ?_
          walk_at "gr"
          refine ⟨rfl, rfl, ?_⟩
          refine .inl ⟨h, l, ps, qs, d, rfl, hs, hp, sq, so, fun l' S' _ _ x => q _ S' x fun z => absurd z (by decide)⟩
        · walk_at "gr"
          refine ve_kw (.same fun _ _ _ h => h) ?_
          walk_at "gr"
          refine ⟨rfl, rfl, ?_⟩
          refine .inl ⟨h, l, ps, qs, d, e, rfl, hs, hp, sq, so, tke, fun S' x => q _ S' x fun _ => rfl⟩
        · walk_at "gr"
          refine ve_kw (.same fun _ _ _ h => h) ?_
          walk_at "gr"
          refine ⟨rfl, rfl, ?_⟩
          refine .inl ⟨h, l, ps, qs, d, rfl, hs, hp, sq, so, fun S' x => q _ S' x fun z => absurd z (by decide)⟩
      · refine ⟨_, (pss_cons (ps_if (pt_cmpR op_eq (pv 1) pe_int (nomark _)) (pss_one (ps_ret (pe_cGK0 c_stack_fault.fn hgd (hr.mono (by decide)) (by rfl) c_stack_fault.mg c_stack_fault.kp (kbn c_stack_fault.df 0 ["names", "heap"] [1, 0] (fun _ _ _ _ _ _ us ws h1 h2 => match us, ws, h1, h2 with | [], [_, _], _, _ => rfl)) px (pk_cons (pv 2) (pk_cons (pv 0) pk_nil)))))
        pss_nil)
        (pss_cons (ps_if (pt_cmpR op_eq (pv 1) pe_int (nomark _)) (pss_one (ps_ret (pe_cGK0 c_stacked.fn hgd (hr.mono (by decide)) (by rfl) c_stacked.mg c_stacked.kp (kbn c_stacked.df 0 ["names", "heap"] [1, 0] (fun _ _ _ _ _ _ us ws h1 h2 => match us, ws, h1, h2 with | [], [_, _], _, _ => rfl)) px (pk_cons (pv 2) (pk_cons (pv 0) pk_nil)))))
        pss_nil)
        (pss_cons (ps_if (pt_cmpR op_eq (pv 1) pe_int (nomark _)) (pss_one (ps_ret (pe_cGK0 c_shows_stacked.fn hgd (hr.mono (by decide)) (by rfl) c_shows_stacked.mg c_shows_stacked.kp (kbn c_shows_stacked.df 0 ["thing", "names", "heap"] [2, 1, 0] (fun _ _ _ _ _ _ us ws h1 h2 => match us, ws, h1, h2 with | [], [_, _, _], _, _ => rfl)) px (pk_cons (pv 3) (pk_cons (pv 2) (pk_cons (pv 0) pk_nil))))))
        pss_nil)
        (pss_one (ps_ret (pe_cGK0 c_heights.fn hgd (hr.mono (by decide)) (by rfl) c_heights.mg c_heights.kp (kbn c_heights.df 0 ["names", "heap"] [1, 0] (fun _ _ _ _ _ _ us ws h1 h2 => match us, ws, h1, h2 with | [], [_, _], _, _ => rfl)) px (pk_cons (pv 2) (pk_cons (pv 0) pk_nil)))))))), ?_⟩
        (try dsimp only [cxOf, List.map])
        show VX _ _ [_, _, _, _] _ _
        rcases hw with rfl | rfl | rfl | rfl
        · walk_at "gr"
          refine ve_kw (.same fun _ _ _ h => h) ?_
          walk_at "gr"
          refine ⟨rfl, rfl, ?_⟩
          refine .inr ⟨h, l, ps, d, rfl, hs, hl, bad, q⟩
        · walk_at "gr"
          refine ve_kw (.same fun _ _ _ h => h) ?_
          walk_at "gr"
          refine ⟨rfl, rfl, ?_⟩
          refine .inr ⟨h, l, ps, d, rfl, hs, hl, bad, q⟩
        · walk_at "gr"
          refine ve_kw (.same fun _ _ _ h => h) ?_
          walk_at "gr"
          refine ⟨rfl, rfl, ?_⟩
          refine .inr ⟨h, l, ps, d, e, rfl, hs, hl, bad, q⟩
        · walk_at "gr"
          refine ve_kw (.same fun _ _ _ h => h) ?_
          walk_at "gr"
          refine ⟨rfl, rfl, ?_⟩
          refine .inr ⟨h, l, ps, d, rfl, hs, hl, bad, q⟩) only [↓VS.box]
theorem ok__law_asked {f : Addr} {fd : FuncData} {C_Sides C_Parcel C_Heap C_NoSide C_NoNames : Addr} {f__law_look : Addr} {g__law_look : FuncData}
    (F : Fd K "_law_asked" "_law_asked" s__law_asked [] f fd) (T : Tx K mg) (hsys : SysOk base)
    (c__law_look : Cf P w K mg base (L2.CX P w) 7 "_law_look" s__law_look [] a__law_look (p_look40 K C_Heap C_Parcel C_Sides C_NoNames) f__law_look g__law_look)
    (x_NoNames : Xc P w K mg base "NoNames" C_NoNames "found")
    (k_Heap : Kl_Heap K mg C_Heap)
    (k_Parcel : Kl_Parcel K mg C_Parcel)
    (k_Sides : Kl_Sides K mg C_Sides) :
    FnG P w K mg base (L2.CX P w) 8 f fd a__law_asked (spOf K (p_asked40 K C_Heap C_Parcel C_Sides)) := by
  refine VS.unbox ?_
  simp (disch := with_unfolding_all
    have kc_Heap := k_Heap.ins.cl
    have ka_Heap_held := k_Heap.a_held
    have ka_Heap_told := k_Heap.a_told
    have ka_Heap_kind := k_Heap.a_kind
    have kc_Parcel := k_Parcel.ins.cl
    have ka_Parcel_called := k_Parcel.a_called
    have ka_Parcel_outside := k_Parcel.a_outside
    have ka_Parcel_thick := k_Parcel.a_thick
    have ka_Parcel_heavy := k_Parcel.a_heavy
    have ka_Parcel_strong := k_Parcel.a_strong
    have ka_Parcel_marks := k_Parcel.a_marks
    have ka_Parcel_told := k_Parcel.a_told
    have ka_Parcel_names := k_Parcel.a_names
    have kc_Sides := k_Sides.ins.cl
    have ka_Sides_three := k_Sides.a_three
    have e_NoNames_NoNames := T.e_NoNames_NoNames _ _ x_NoNames.at_ x_NoNames.at_
    refine fn_val F sc__law_asked (fun ds S G Y h => ?_) (fun cdv A hgd outer s H E hr px tk po ds S G Y h => ?_)
    · rcases h with ⟨h, l, ps, qs, d, e, wy, rfl, _⟩ | ⟨h, l, ps, d, e, wy, rfl, _⟩ <;> rfl
    · rcases h with ⟨h, l, ps, qs, d, e, wy, rfl, hs, hp, sq, so, tke, hw, q⟩ | ⟨h, l, ps, d, e, wy, rfl, hs, hl, bad, hw, q⟩
      · refine ⟨_, (pss_one (ps_tryD rfl rfl sc__law_asked.nd (fun W pn xe tk po => have px := passS_of tk; (pss_cons (ps_set (i := 4) sc__law_asked.nd rfl (Or.inl rfl) (pe_cG c__law_look.fn hgd (hr.mono (by decide)) (by rfl) c__law_look.mg c__law_look.kp c__law_look.b .nil px (pa_cons (pv 0) (pa_cons (pv 1) (pa_cons (pv 2) (pa_cons (pv 3) pa_nil))))))
        (pss_one (ps_ret (pe_tup (pa_cons pe_str (pa_cons (pv 4) pa_nil))))))) (.named (i := 5) ⟨by rfl, by decide, .inl x_NoNames.at_⟩ rfl rfl (fun a oe cls d pn hz hf => (pss_one (ps_ret (pe_tup (pa_cons pe_str (pa_cons (pe_xf x_NoNames.xf x_NoNames.no hz hf (pv 5)) pa_nil)))))) .rest))), ?_⟩
        (try dsimp only [cxOf, List.map])
        show VX _ _ [_, _, _, _, _, _] _ _
        walk_at "gr"
        refine .inl ⟨h, l, ps, qs, d, e, wy, rfl, hs, hp, sq, so, tke, hw, fun r S1 x1 hr2 => ?_⟩
        walk_at "gr"
        exact q r S1 x1 hr2
      · refine ⟨_, (pss_one (ps_tryD rfl rfl sc__law_asked.nd (fun W pn xe tk po => have px := passS_of tk; (pss_cons (ps_set (i := 4) sc__law_asked.nd rfl (Or.inl rfl) (pe_cG c__law_look.fn hgd (hr.mono (by decide)) (by rfl) c__law_look.mg c__law_look.kp c__law_look.b .nil px (pa_cons (pv 0) (pa_cons (pv 1) (pa_cons (pv 2) (pa_cons (pv 3) pa_nil))))))
        (pss_one (ps_ret (pe_tup (pa_cons pe_str (pa_cons (pv 4) pa_nil))))))) (.named (i := 5) ⟨by rfl, by decide, .inl x_NoNames.at_⟩ rfl rfl (fun a oe cls d pn hz hf => (pss_one (ps_ret (pe_tup (pa_cons pe_str (pa_cons (pe_xf x_NoNames.xf x_NoNames.no hz hf (pv 5)) pa_nil)))))) .rest))), ?_⟩
        (try dsimp only [cxOf, List.map])
        show VX _ _ [_, _, _, _, _, _] _ _
        walk_at "gr"
        refine .inr ⟨h, l, ps, d, e, wy, rfl, hs, hl, bad, hw, hd_hit e_NoNames_NoNames fun ax dd => ?_⟩
        walk_at "gr"
        exact q) only [↓VS.box]
end
end LW
namespace LW
open PySem L2 C8 PySem.Spec PyProof.Rows VS
/-! ### rows of names with one thing amiss, the lists by reference -/
theorem odd8 : ∀ x ∈ [D.non, .int 7, .bl true, .str "", .str "zzzzzzzz", .lst [.str "a"], .tup [.str "a"], .dK []], Nm1 x :=
  ac (.inr (.head _)) (ac (.inr (.tail _ (.head _))) (ac (.inr (.tail _ (.tail _ (.head _)))) (ac (.inl ⟨_, rfl, Asc.lit (by decide)⟩) (ac (.inl ⟨_, rfl, Asc.lit (by decide)⟩) (ac (.inr (.tail _ (.tail _ (.tail _ (.head _))))) (ac (.inr (.tail _ (.tail _ (.tail _ (.tail _ (.head _)))))) (ac (.inr (.tail _ (.tail _ (.tail _ (.tail _ (.tail _ (.head _))))))) an)))))))
theorem in_pieces {xs : List D} {l1 l2 h1 h2 : Option Int} {m : List D} (hx : ∀ x ∈ xs, Nm1 x) (hm : m.length ≤ 1 ∧ ∀ x ∈ m, Nm1 x) : (cutD xs l1 h1 ++ m ++ cutD xs l2 h2).length ≤ 2 * xs.length + 1 ∧ ∀ x ∈ cutD xs l1 h1 ++ m ++ cutD xs l2 h2, Nm1 x := by
  refine ⟨?_, fun x h => ?_⟩
  · have c1 := VS.cut_len (xs := xs) (lo := l1) (hi := h1)
    have c2 := VS.cut_len (xs := xs) (lo := l2) (hi := h2)
    rw [List.length_append, List.length_append]
    omega
  · rcases List.mem_append.mp h with h | h
    · rcases List.mem_append.mp h with h | h
      · exact hx x (VS.cut_mem h)
      · exact hm.2 x h
    · exact hx x (VS.cut_mem h)
/-- what some names may become -/
def Sp40 (S : Sto) (p : Addr) (n : Int) (L : List (Addr × D)) (N : Nat) (d : D) : Prop := (∃ a ys, d = .ref a ∧ Wd S p n ((a, .lst ys) :: L) ∧ ys.length ≤ N ∧ ∀ y ∈ ys, Nm1 y) ∨ (Rw N d ∧ isK "list" d = false ∧ Wd S p n L)
def p_spoilt40 : Pt := fun ds S G _ => ∃ (p : Addr) (x : D) (n : Int) (ks : List Str) (xs : List D) (L M : List (Addr × D)), ds = [.ref p, .lst (ks.map D.str), x] ∧ Wd S p n M ∧ (∀ S' m, Wd S' p m M → IsL S' x xs ∧ Wd S' p m L) ∧ n < 700000 ∧ (∀ z ∈ ks, Asc 19 z) ∧ ks.length ≤ 12 ∧ xs.length ≤ 200 ∧ (∀ x ∈ xs, Nm1 x) ∧
  (∀ S', Wd S' p (n + 6) M → G x S') ∧ ∀ d S', Sp40 S' p (n + 6) L (2 * xs.length + 1) d → G d S'
section
variable {P : Program} {w : World} {K : PySem.W.Frag} {mg : Str → Option Value} {base : Heap}
theorem ok__law_spoilt_names {f : Addr} {fd : FuncData} {C_Sides C_Parcel C_Heap C_NoSide C_NoNames : Addr} {f__law_take : Addr} {g__law_take : FuncData}
    (F : Fd K "_law_spoilt_names" "_law_spoilt_names" s__law_spoilt_names [] f fd) (T : Tx K mg) (hsys : SysOk base)
    (c__law_take : Cf P w K mg base (L2.CX P w) 1 "_law_take" s__law_take [] a__law_take p__law_take f__law_take g__law_take) :
    FnG P w K mg base (L2.CX P w) 2 f fd a__law_spoilt_names (spOf K p_spoilt40) := by
  refine VS.unbox ?_
  simp (disch := with_unfolding_all
    refine fn_val F sc__law_spoilt_names (fun ds S G Y h => ?_) (fun cdv A hgd outer s H E hr px tk po ds S G Y h => ?_)
    · obtain ⟨p, x, n, ks, xs, L, M, rfl, _⟩ := h
      rfl
    · obtain ⟨p, x, n, ks, xs, L, M, rfl, wd, hM, hn, ka, kl, xl, hx, qs, q⟩ := h
      refine ⟨_, (pss_cons (ps_set (i := 3) sc__law_spoilt_names.nd rfl (Or.inl rfl) (pe_cG c__law_take.fn hgd (hr.mono (by decide)) (by rfl) c__law_take.mg c__law_take.kp c__law_take.b .nil VS.pass0 (pa_cons (pv 0) (pa_cons pe_int pa_nil))))
        (pss_cons (ps_set (i := 4) sc__law_spoilt_names.nd rfl (Or.inl rfl) (pe_cG c__law_take.fn hgd (hr.mono (by decide)) (by rfl) c__law_take.mg c__law_take.kp c__law_take.b .nil VS.pass0 (pa_cons (pv 0) (pa_cons (pe_callB (c_max2 rfl) (by rfl) T.b_max (by decide +kernel) (pa_cons pe_int (pa_cons (pe_callB c_len (by rfl) T.b_len (by decide +kernel) (pa_cons (pv 2) pa_nil)) pa_nil))) pa_nil))))
        (pss_cons (ps_set (i := 5) sc__law_spoilt_names.nd rfl (Or.inl rfl) (pe_cG c__law_take.fn hgd (hr.mono (by decide)) (by rfl) c__law_take.mg c__law_take.kp c__law_take.b .nil VS.pass0 (pa_cons (pv 0) (pa_cons (pe_callB (c_max2 rfl) (by rfl) T.b_max (by decide +kernel) (pa_cons pe_int (pa_cons (pe_callB c_len (by rfl) T.b_len (by decide +kernel) (pa_cons (pv 2) pa_nil)) pa_nil))) pa_nil))))
        (pss_cons (ps_if (pt_cmpR op_eq (pv 3) pe_int (nomark _)) (pss_one (ps_ret (pe_callTy c_tuple (by rfl) T.b_tuple (by decide +kernel) (pa_cons (pv 2) pa_nil))))
        pss_nil)
        (pss_cons (ps_if (pt_cmpR op_eq (pv 3) pe_int (nomark _)) (pss_one (ps_ret (pe_revL (pv 2))))
        pss_nil)
        (pss_cons (ps_if (pt_cmpR op_eq (pv 3) pe_int (nomark _)) (pss_one (ps_ret (pe_op op_cat (pe_slice sl_list (pv 2) po_none (po_some (pv 4))) (pe_slice sl_list (pv 2) (po_some (pe_op op_add (pv 4) pe_int)) po_none))))
        pss_nil)
        (pss_cons (ps_if (PW.pt (pw_and (pt_cmpR op_eq (pv 3) pe_int (nomark _)) (pw_and1 (pt_cmpR (op_neE hr) (pv 1) (pe_lst pa_nil) (nomark _))))) (pss_one (ps_ret (pe_op op_cat (pe_op op_cat (pe_slice sl_list (pv 2) po_none (po_some (pv 4))) (pe_lst (pa_cons (pe_ix ix_list (pv 1) (pe_cG c__law_take.fn hgd (hr.mono (by decide)) (by rfl) c__law_take.mg c__law_take.kp c__law_take.b .nil VS.pass0 (pa_cons (pv 0) (pa_cons (pe_callB c_len (by rfl) T.b_len (by decide +kernel) (pa_cons (pv 1) pa_nil)) pa_nil))) (fun _ _ => rfl)) pa_nil))) (pe_slice sl_list (pv 2) (po_some (pv 4)) po_none))))
        pss_nil)
        (pss_cons (ps_if (pt_cmpR op_eq (pv 3) pe_int (nomark _)) (pss_cons (ps_set (i := 6) sc__law_spoilt_names.nd rfl (Or.inl rfl) (pe_lst (pa_cons pe_non (pa_cons pe_int (pa_cons pe_bl (pa_cons pe_str (pa_cons pe_str (pa_cons (pe_lst (pa_cons pe_str pa_nil)) (pa_cons (pe_tup (pa_cons pe_str pa_nil)) (pa_cons pe_dnewK pa_nil))))))))))
        (pss_one (ps_ret (pe_op op_cat (pe_op op_cat (pe_slice sl_list (pv 2) po_none (po_some (pv 4))) (pe_lst (pa_cons (pe_ix ix_list (pv 6) (pe_cG c__law_take.fn hgd (hr.mono (by decide)) (by rfl) c__law_take.mg c__law_take.kp c__law_take.b .nil VS.pass0 (pa_cons (pv 0) (pa_cons pe_int pa_nil))) (fun _ _ => rfl)) pa_nil))) (pe_slice sl_list (pv 2) (po_some (pe_op op_add (pv 4) (pe_cG c__law_take.fn hgd (hr.mono (by decide)) (by rfl) c__law_take.mg c__law_take.kp c__law_take.b .nil VS.pass0 (pa_cons (pv 0) (pa_cons pe_int pa_nil))))) po_none)))))
        pss_nil)
        (pss_cons (ps_if (PW.pt (pw_and (pt_cmpR op_eq (pv 3) pe_int (nomark _)) (pw_and1 (pt_cmpR (op_neE hr) (pv 1) (pe_lst pa_nil) (nomark _))))) (pss_one (ps_ret (pe_op op_cat (pe_op op_cat (pe_slice sl_list (pv 2) po_none (po_some (pv 4))) (pe_lst (pa_cons (pe_ix ix_list (pv 1) (pe_cG c__law_take.fn hgd (hr.mono (by decide)) (by rfl) c__law_take.mg c__law_take.kp c__law_take.b .nil VS.pass0 (pa_cons (pv 0) (pa_cons (pe_callB c_len (by rfl) T.b_len (by decide +kernel) (pa_cons (pv 1) pa_nil)) pa_nil))) (fun _ _ => rfl)) pa_nil))) (pe_slice sl_list (pv 2) (po_some (pe_op op_add (pv 4) pe_int)) po_none))))
        pss_nil)
        (pss_cons (ps_if (pt_cmpR op_eq (pv 3) pe_int (nomark _)) (pss_one (ps_ret (pe_ix ix_list (pe_lst (pa_cons (pe_lst pa_nil) (pa_cons pe_non (pa_cons pe_int (pa_cons pe_bl (pa_cons pe_str (pa_cons pe_str (pa_cons pe_dnewK (pa_cons (pe_tup pa_nil) pa_nil))))))))) (pe_cG c__law_take.fn hgd (hr.mono (by decide)) (by rfl) c__law_take.mg c__law_take.kp c__law_take.b .nil VS.pass0 (pa_cons (pv 0) (pa_cons pe_int pa_nil))) (fun _ _ => rfl))))
        pss_nil)
        (pss_cons (ps_if (PW.pt (pw_and (pt_cmpR op_eq (pv 3) pe_int (nomark _)) (pw_and1 (pt_cmpR (op_neE hr) (pv 2) (pe_lst pa_nil) (nomark _))))) (pss_one (ps_ret (pe_op op_cat (pe_op op_cat (pe_slice sl_list (pv 2) po_none (po_some (pv 5))) (pe_lst (pa_cons (pe_ix ix_list (pv 2) (pv 4) (fun _ _ => rfl)) pa_nil))) (pe_slice sl_list (pv 2) (po_some (pv 5)) po_none))))
        pss_nil)
        (pss_cons (ps_if (PW.pt (pw_and (pt_cmpR op_eq (pv 3) pe_int (nomark _)) (pw_and1 (pt_cmpR (op_neE hr) (pv 2) (pe_lst pa_nil) (nomark _))))) (pss_cons (ps_set (i := 2) sc__law_spoilt_names.nd rfl (Or.inl rfl) (pe_callTy c_list (by rfl) T.b_list (by decide +kernel) (pa_cons (pv 2) pa_nil)))
        (pss_one (ps_asg (pe_tup (pa_cons (pe_ix ix_list (pv 2) (pv 5) (fun _ _ => rfl)) (pa_cons (pe_ix ix_list (pv 2) (pv 4) (fun _ _ => rfl)) pa_nil))) (pg_tup (n := 2) rfl (pgs_cons (pg_sub (pv 2) (pv 4) set_list) (pgs_cons (pg_sub (pv 2) (pv 5) set_list) pgs_nil))))))
        pss_nil)
        (pss_one (ps_ret (pv 2))))))))))))))), ?_⟩
      (try dsimp only [cxOf, List.map])
      show VX _ _ [_, _, _, _, _, _, _] _ _
      walk_at "gr"
      intro w S1 w0 w1 wd1
      clear wd
      walk_at "gr"
      refine rc_lenQ (.l (hM _ _ wd1).1) ?_
      walk_at "gr"
      intro a S2 a0 a1 wd2
      clear wd1
      walk_at "gr"
      refine rc_lenQ (.l (hM _ _ wd2).1) ?_
      walk_at "gr"
      intro t S3 t0 t1 wd3
      clear wd2
      walk_at "gr"
      have c3 := (hM _ _ wd3).1
      have szb : 1000 ≤ sizeLine := by have := szl; omega
      have cl : ∀ l h : Option Int, (cutD xs l h).length ≤ 200 := fun l h => Nat.le_trans VS.cut_len xl
      have known : ks ≠ [] → ∀ (u : Int), 0 ≤ u → u < ((ks.map D.str).length : Int) → ∃ z, atI (ks.map D.str) u = some (.str z) ∧ Nm1 (.str z) := fun _ u u0 u1 => by
        rw [List.length_map] at u1
        obtain ⟨z, hz⟩ : ∃ z, ks[u.toNat]? = some z := ⟨_, List.getElem?_eq_getElem (by omega)⟩
        refine ⟨z, ?_, .inl ⟨z, rfl, ka z (List.mem_of_getElem? hz)⟩⟩
        have := atI_nat (j := u.toNat) (show (ks.map D.str)[u.toNat]? = some (D.str z) by rw [List.getElem?_map, hz]; rfl)
        rw [show ((u.toNat : Nat) : Int) = u by omega] at this
        exact this
      have stay : G x S3 := qs _ (wd3.mono (by omega))
      -- a fresh list
      have fresh : ∀ (S4 : Sto) (m : Int) (ys : List D) (b : Addr), Wd S4 p m M → m ≤ n + 6 → S4 b = none → ys.length ≤ 2 * xs.length + 1 → (∀ y ∈ ys, Nm1 y) → G (.ref b) (VS.put S4 b (.lst ys)) := fun S4 m ys b w4 hm hb hl hy => q _ _ (.inl ⟨b, ys, rfl, ((hM _ _ w4).2.new hb).mono hm, hl, hy⟩)
      obtain rfl | rfl | rfl | rfl | rfl | rfl | rfl | rfl | rfl | rfl : w = 0 ∨ w = 1 ∨ w = 2 ∨ w = 3 ∨ w = 4 ∨ w = 5 ∨ w = 6 ∨ w = 7 ∨ w = 8 ∨ w = 9 := by omega
      · refine ⟨fun _ => ?_, fun z => absurd z (by decide)⟩
        walk_at "gr"
        refine rc_tupleL c3 ?_
        walk_at "gr"
        exact q _ _ (.inr ⟨.inl ⟨xs, .inr rfl, by omega, hx⟩, rfl, (hM _ _ wd3).2.mono (by omega)⟩)
      · refine ⟨fun z => absurd z (by decide), fun _ => ?_⟩
        walk_at "gr"
        refine ve_revLc ?_
        walk_at "gr"
        exact ⟨xs, c3, fun b hb => fresh _ _ _ b wd3 (by omega) hb (by rw [List.length_reverse]; omega) fun x h => hx x (List.mem_reverse.mp h)⟩
      · refine ⟨fun z => absurd z (by decide), fun _ => ?_⟩
        walk_at "gr"
        refine rs_list c3 ?_
        walk_at "gr"
        refine rs_list c3 ?_
        refine rv_catc .v .v (by have := cl none (some a); have := cl (some (a + 1)) none; omega) fun b hb => ?_
        have := in_pieces (l1 := none) (h1 := some a) (l2 := some (a + 1)) (h2 := none) (m := []) hx ⟨by simp, nofun⟩
        rw [List.append_nil] at this
        exact fresh _ _ _ b wd3 (by omega) hb this.1 this.2
      · refine ⟨fun z => absurd z (by decide), fun _ => ?_⟩
        walk_at "gr"
        refine ve_lst ?_
        walk_at "gr"
        refine ⟨fun ek => ?_, fun _ => ?_⟩
        · have ne : ks ≠ [] := fun z => by rw [z] at ek; cases ek
          have kpos : 0 < ks.length := List.length_pos_iff.mpr ne
          walk_at "gr"
          refine rs_list c3 ?_
          walk_at "gr"
          refine ve_lst ?_
          walk_at "gr"
          intro u S4 u0 u1 w4
          have c4 := (hM _ _ w4).1
          obtain ⟨z, ez, nz⟩ := known ne u u0 u1
          refine rv_ixL .v ez ?_
          walk_at "gr"
          refine rv_cat .v .v (by have := cl none (some a); simp only [List.length_cons, List.length_nil]; omega) ?_
          walk_at "gr"
          refine rs_list c4 ?_
          refine rv_catc .v .v (by have := cl none (some a); have := cl (some a) none; rw [List.length_append]; simp only [List.length_cons, List.length_nil]; omega) fun b hb => ?_
          have := in_pieces (l1 := none) (h1 := some a) (l2 := some a) (h2 := none) (m := [.str z]) hx ⟨by simp, fun x h => by rw [List.mem_singleton.mp h]; exact nz⟩
          exact fresh _ _ _ b w4 (by omega) hb this.1 this.2
        · walk_at "gr"
          exact stay
      · refine ⟨fun z => absurd z (by decide), fun _ => ?_⟩
        walk_at "gr"
        refine ve_lst ?_
        walk_at "gr"
        refine ve_lst ?_
        walk_at "gr"
        refine rs_list c3 ?_
        walk_at "gr"
        refine ve_lst ?_
        walk_at "gr"
        intro u S4 u0 u1 w4
        refine rv_ixAll Nm1 u0 u1 odd8 fun z nz => ?_
        walk_at "gr"
        refine rv_cat .v .v (by have := cl none (some a); simp only [List.length_cons, List.length_nil]; omega) ?_
        clear wd3
        walk_at "gr"
        intro v S5 v0 v1 w5
        have c5 := (hM _ _ w5).1
        walk_at "gr"
        refine rs_list c5 ?_
        refine rv_catc .v .v (by have := cl none (some a); have := cl (some (a + v)) none; rw [List.length_append]; simp only [List.length_cons, List.length_nil]; omega) fun b hb => ?_
        have := in_pieces (l1 := none) (h1 := some a) (l2 := some (a + v)) (h2 := none) (m := [z]) hx ⟨by simp, fun x h => by rw [List.mem_singleton.mp h]; exact nz⟩
        exact fresh _ _ _ b w5 (by omega) hb this.1 this.2
      · refine ⟨fun z => absurd z (by decide), fun _ => ?_⟩
        walk_at "gr"
        refine ve_lst ?_
        walk_at "gr"
        refine ⟨fun ek => ?_, fun _ => ?_⟩
        · have ne : ks ≠ [] := fun z => by rw [z] at ek; cases ek
          have kpos : 0 < ks.length := List.length_pos_iff.mpr ne
          walk_at "gr"
          refine rs_list c3 ?_
          walk_at "gr"
          refine ve_lst ?_
          walk_at "gr"
          intro u S4 u0 u1 w4
          have c4 := (hM _ _ w4).1
          obtain ⟨z, ez, nz⟩ := known ne u u0 u1
          refine rv_ixL .v ez ?_
          walk_at "gr"
          refine rv_cat .v .v (by have := cl none (some a); simp only [List.length_cons, List.length_nil]; omega) ?_
          walk_at "gr"
          refine rs_list c4 ?_
          refine rv_catc .v .v (by have := cl none (some a); have := cl (some (a + 1)) none; rw [List.length_append]; simp only [List.length_cons, List.length_nil]; omega) fun b hb => ?_
          have := in_pieces (l1 := none) (h1 := some a) (l2 := some (a + 1)) (h2 := none) (m := [.str z]) hx ⟨by simp, fun x h => by rw [List.mem_singleton.mp h]; exact nz⟩
          exact fresh _ _ _ b w4 (by omega) hb this.1 this.2
        · walk_at "gr"
          exact stay
      · refine ⟨fun z => absurd z (by decide), fun _ => ?_⟩
        walk_at "gr"
        refine ve_lst ?_
        walk_at "gr"
        refine ve_lstc ?_
        walk_at "gr"
        intro e he
        have w4 := (hM _ _ wd3).2.new (d := .lst []) he
        generalize VS.put S3 e (.lst []) = S4 at w4 ⊢
        clear wd3 c3 stay
        walk_at "gr"
        intro u S5 u0 u1 w5
        refine rv_ixAll (fun d => Sp40 S5 p (n + 6) L (2 * xs.length + 1) d) u0 u1 ?_ fun d hd => q _ _ hd
        have w6 : Wd S5 p (n + 6) L := w5.tl.mono (by omega)
        exact ac (.inl ⟨e, [], rfl, w5.mono (by omega), Nat.zero_le _, nofun⟩) (ac (.inr ⟨.inr (odd8 _ (.head _)), rfl, w6⟩) (ac (.inr ⟨.inr (odd8 _ (.tail _ (.head _))), rfl, w6⟩) (ac (.inr ⟨.inr (odd8 _ (.tail _ (.tail _ (.head _)))), rfl, w6⟩) (ac (.inr ⟨.inr (.inl ⟨_, rfl, Asc.lit (by decide)⟩), rfl, w6⟩) (ac (.inr ⟨.inr (.inl ⟨_, rfl, Asc.lit (by decide)⟩), rfl, w6⟩) (ac (.inr ⟨.inr (.inr (.tail _ (.tail _ (.tail _ (.tail _ (.tail _ (.head _))))))), rfl, w6⟩) (ac (.inr ⟨.inl ⟨[], .inr rfl, Nat.zero_le _, nofun⟩, rfl, w6⟩) an)))))))
      · refine ⟨fun z => absurd z (by decide), fun _ => ?_⟩
        walk_at "gr"
        refine ve_lst ?_
        walk_at "gr"
        refine rv_neEL c3 ?_
        walk_at "gr"
        refine ⟨fun ek => ?_, fun _ => ?_⟩
        · have ne : xs ≠ [] := fun z => by rw [z] at ek; cases ek
          walk_at "gr"
          refine rs_list c3 ?_
          walk_at "gr"
          refine ve_lst ?_
          walk_at "gr"
          obtain ⟨z, ez, nz⟩ : ∃ z, atI xs a = some z ∧ Nm1 z := by
            have xl0 : 0 < xs.length := List.length_pos_iff.mpr ne
            obtain ⟨z, hz⟩ : ∃ z, xs[a.toNat]? = some z := ⟨_, List.getElem?_eq_getElem (by omega)⟩
            refine ⟨z, ?_, hx z (List.mem_of_getElem? hz)⟩
            have := atI_nat (j := a.toNat) hz
            rw [show ((a.toNat : Nat) : Int) = a by omega] at this
            exact this
          refine rv_ixL c3 ez ?_
          walk_at "gr"
          refine rv_cat .v .v (by have := cl none (some t); simp only [List.length_cons, List.length_nil]; omega) ?_
          walk_at "gr"
          refine rs_list c3 ?_
          refine rv_catc .v .v (by have := cl none (some t); have := cl (some t) none; rw [List.length_append]; simp only [List.length_cons, List.length_nil]; omega) fun b hb => ?_
          have := in_pieces (l1 := none) (h1 := some t) (l2 := some t) (h2 := none) (m := [z]) hx ⟨by simp, fun x h => by rw [List.mem_singleton.mp h]; exact nz⟩
          exact fresh _ _ _ b wd3 (by omega) hb this.1 this.2
        · walk_at "gr"
          exact stay
      · refine ⟨fun z => absurd z (by decide), fun _ => ?_⟩
        walk_at "gr"
        refine ve_lst ?_
        walk_at "gr"
        refine rv_neEL c3 ?_
        walk_at "gr"
        refine ⟨fun ek => ?_, fun _ => ?_⟩
        · have ne : xs ≠ [] := fun z => by rw [z] at ek; cases ek
          have xl0 : 0 < xs.length := List.length_pos_iff.mpr ne
          have at_ : ∀ u : Int, 0 ≤ u → u < (if (xs.length : Int) > 1 then (xs.length : Int) else 1) → ∃ z, atI xs u = some z ∧ Nm1 z := fun u u0 u1 => by
            obtain ⟨z, hz⟩ : ∃ z, xs[u.toNat]? = some z := ⟨_, List.getElem?_eq_getElem (by omega)⟩
            refine ⟨z, ?_, hx z (List.mem_of_getElem? hz)⟩
            have := atI_nat (j := u.toNat) hz
            rw [show ((u.toNat : Nat) : Int) = u by omega] at this
            exact this
          obtain ⟨y1, e1, n1⟩ := at_ t t0 t1
          obtain ⟨y2, e2, n2⟩ := at_ a a0 a1
          walk_at "gr"
          refine rc_listc (.l c3) fun l hl => ?_
          have w4 := (hM _ _ wd3).2.new (d := .lst xs) hl
          generalize VS.put S3 l (.lst xs) = S4 at w4 ⊢
          clear wd3 c3 stay
          have cl1 := w4.g0
          have ix : ∀ (u : Int) (ys : List D), 0 ≤ u → u < (if (xs.length : Int) > 1 then (xs.length : Int) else 1) → ys.length = xs.length → ixN ys.length u = some u.toNat := fun u ys u0 u1 h => ixN_in u0 (by rw [h]; omega)
          walk_at "gr"
          refine rv_ixL (.c cl1) e1 ?_
          walk_at "gr"
          refine rv_ixL (.c cl1) e2 ?_
          walk_at "gr"
          refine ⟨_, _, _, rfl, cl1, ix a xs a0 a1 rfl, ?_⟩
          walk_at "gr"
          refine ⟨_, _, _, rfl, put_same, ix t _ t0 t1 (List.length_set ..), ?_⟩
          have gx : ∀ x ∈ (xs.set a.toNat y1).set t.toNat y2, Nm1 x := fun x h => by
            rcases List.mem_or_eq_of_mem_set h with h | h
            · rcases List.mem_or_eq_of_mem_set h with h | h
              · exact hx x h
              · rw [h]; exact n1
            · rw [h]; exact n2
          have w5 := w4.wr (d' := .lst (xs.set a.toNat y1)) 0 rfl
          have w6 := w5.wr (d' := .lst ((xs.set a.toNat y1).set t.toNat y2)) 0 rfl
          refine vgs_nil ?_
          walk_at "gr"
          exact q _ _ (.inl ⟨l, _, rfl, Wd.mono w6 (by omega), by rw [List.length_set, List.length_set]; omega, gx⟩)
        · walk_at "gr"
          exact stay
      · refine ⟨fun z => absurd z (by decide), fun _ => ?_⟩
        walk_at "gr"
        exact stay) only [↓VS.box]
end
end LW
namespace LW
open PySem L2 C8 PySem.Spec PyProof.Rows VS
/-! ### whether all four refuse what are no names, or tell -/
theorem shl_all {n k : Nat} : ∀ {xs : List D}, (∀ x ∈ xs, Sh x n k) → ShL xs (xs.length * (n + 2)) k
  | [], _ => ShL.nil.mono (Nat.zero_le _) (Nat.zero_le _)
  | x :: xs, h => (ShL.cons (h x List.mem_cons_self) (shl_all fun y hy => h y (List.mem_cons_of_mem _ hy))).mono (by rw [List.length_cons, Nat.succ_mul]; omega) (by omega)
theorem Nm1.sh {d : D} (h : Nm1 d) : Sh d 200 2 := by
  rcases h with ⟨s, rfl, a⟩ | h
  · exact (Sh.str a).mono (by decide) (by decide)
  · simp only [List.mem_cons, List.not_mem_nil, or_false] at h
    have sa : Sh (.str "a") 192 0 := Sh.str (n := 19) (z := "a") (Asc.lit (by decide))
    rcases h with rfl | rfl | rfl | rfl | rfl | rfl
    · exact Sh.non.mono (by decide) (by decide)
    · exact (Sh.int (i := 7) (k := 3) (by decide) (by decide) (by decide)).mono (by decide) (by decide)
    · exact (Sh.bl true).mono (by decide) (by decide)
    · exact (Sh.lst (ShL.cons sa ShL.nil)).mono (by decide) (by decide)
    · exact (Sh.tup (ShL.cons sa ShL.nil)).mono (by decide) (by decide)
    · exact (Sh.dic ShK.nil).mono (by decide) (by decide)
theorem lst_sh40 {xs : List D} (h : ∀ x ∈ xs, Nm1 x) (l : xs.length ≤ 450) : Sh (.lst xs) 100000 8 := (Sh.lst (shl_all fun x hx => (h x hx).sh)).mono (by have := Nat.mul_le_mul_right (200 + 2) l; omega) (by decide)
theorem put_eta {S : Sto} {s : Addr} {d : D} (h : S s = some d) : VS.put S s d = S := by
  funext b
  by_cases e : b = s
  · subst e; rw [put_same, h]
  · rw [put_ne e]
def OdT (e : D) : Prop := Tk e ∧ ∀ ps ks, shkB ps ks e = false
def p_right40 (K : PySem.W.Frag) (CH CP CS : Addr) : Pt := fun ds S G _ => ∃ (h l : Addr) (ps : List Pc) (d e : D), ds = [.ref h, d, e] ∧ HpS S CH CP CS h l ps ∧ Hps ps ∧ OdT e ∧
  ((∃ qs, SqD d (qs.map Pc.nm) ∧ Some_ ps qs ∧ ∀ S', Ext S S' → G (.bl true) S') ∨
   (isP d = true ∧ isK "list" d = false ∧ namG (ps.map Pc.nm) 0 d = false ∧ (rowsOf d).length ≤ 1000 ∧ Sh d 100000 8 ∧ G (.bl true) S) ∨
   (d = sd CS 1 2 3 ∧ G (.bl true) S) ∨
   (∃ (s : Addr) (ys : List D), d = .ref s ∧ S s = some (.lst ys) ∧ s ≠ h ∧ s ≠ l ∧ namB (ps.map Pc.nm) 0 ys = false ∧ ys.length ≤ 400 ∧ (∀ y ∈ ys, Nm1 y) ∧ ∀ zs, G (.bl true) (put S s (.lst zs))))
theorem ways4 (i : Nat) (d : D) (h : ([.int 2, .int 0, .int 3, .int 1] : List D)[i]? = some d) : ∃ wy : Int, d = .int wy ∧ (wy = 0 ∨ wy = 1 ∨ wy = 2 ∨ wy = 3) := by
  have hi : i < 4 := (List.getElem?_eq_some_iff.mp h).1
  have : i = 0 ∨ i = 1 ∨ i = 2 ∨ i = 3 := by omega
  rcases this with rfl | rfl | rfl | rfl <;> cases h
  · exact ⟨2, rfl, by decide⟩
  · exact ⟨0, rfl, by decide⟩
  · exact ⟨3, rfl, by decide⟩
  · exact ⟨1, rfl, by decide⟩
section
variable {P : Program} {w : World} {K : PySem.W.Frag} {mg : Str → Option Value} {base : Heap}
theorem ok__law_right {f : Addr} {fd : FuncData} {C_Sides C_Parcel C_Heap C_NoSide C_NoNames : Addr} {f__law_good f__law_asked f_Heap_names f_Sides___repr__ : Addr} {g__law_good g__law_asked g_Heap_names g_Sides___repr__ : FuncData}
    (F : Fd K "_law_right" "_law_right" s__law_right [] f fd) (T : Tx K mg) (hsys : SysOk base)
    (c__law_good : Cf P w K mg base (L2.CX P w) 1 "_law_good" s__law_good [] a__law_good (p__law_good K) f__law_good g__law_good)
    (c__law_asked : Cf P w K mg base (L2.CX P w) 8 "_law_asked" s__law_asked [] a__law_asked (p_asked40 K C_Heap C_Parcel C_Sides) f__law_asked g__law_asked)
    (c_Heap_names : Mf P w K mg base 2 C_Heap "names" "Heap.names" s_Heap_names [] a_Heap_names (p_Hp_names C_Heap C_Parcel C_Sides) f_Heap_names g_Heap_names)
    (c_Sides___repr__ : Mf P w K mg base 1 C_Sides "__repr__" "Sides.__repr__" s_Sides___repr__ [] a_Sides___repr__ (p_repr C_Sides) f_Sides___repr__ g_Sides___repr__)
    (k_Heap : Kl_Heap K mg C_Heap)
    (k_Parcel : Kl_Parcel K mg C_Parcel)
    (k_Sides : Kl_Sides K mg C_Sides) :
    FnG P w K mg base (L2.CX P w) 9 f fd a__law_right (spOf K (p_right40 K C_Heap C_Parcel C_Sides)) := by
  refine VS.unbox ?_
  simp (disch := with_unfolding_all
    have kc_Heap := k_Heap.ins.cl
    have ka_Heap_held := k_Heap.a_held
    have ka_Heap_told := k_Heap.a_told
    have ka_Heap_kind := k_Heap.a_kind
    have kc_Parcel := k_Parcel.ins.cl
    have ka_Parcel_called := k_Parcel.a_called
    have ka_Parcel_outside := k_Parcel.a_outside
    have ka_Parcel_thick := k_Parcel.a_thick
    have ka_Parcel_heavy := k_Parcel.a_heavy
    have ka_Parcel_strong := k_Parcel.a_strong
    have ka_Parcel_marks := k_Parcel.a_marks
    have ka_Parcel_told := k_Parcel.a_told
    have ka_Parcel_names := k_Parcel.a_names
    have kc_Sides := k_Sides.ins.cl
    have ka_Sides_three := k_Sides.a_three
    refine fn_val F sc__law_right (fun ds S G Y h => ?_) (fun cdv A hgd outer s H E hr px tk po ds S G Y h => ?_)
    · obtain ⟨h, l, ps, d, e, rfl, _⟩ := h
      rfl
    · obtain ⟨h, l, ps, d, e, rfl, hs, hp, ho, q⟩ := h
      have tke := ho.1
      have p12 := hp.l
      have kn12 : (ps.map Pc.nm).length ≤ 12 := by rw [List.length_map]; exact p12
      refine ⟨_, (pss_cons (ps_set (i := 3) sc__law_right.nd rfl (Or.inl rfl) (pe_cG c__law_good.fn hgd (hr.mono (by decide)) (by rfl) c__law_good.mg c__law_good.kp c__law_good.b .nil VS.pass0 (pa_cons (pe_mG0 (pv 0) c_Heap_names.cl c_Heap_names.me c_Heap_names.fn hgd (hr.mono (by decide)) c_Heap_names.b .nil VS.pass0) (pa_cons (pv 1) pa_nil))))
        (pss_cons (ps_for po rfl (pi_list (pe_lst (pa_cons pe_int (pa_cons pe_int (pa_cons pe_int (pa_cons pe_int pa_nil)))))) (pg_name (i := 4) sc__law_right.nd rfl (Or.inl rfl))
        (pss_cons (ps_asg (pe_cG c__law_asked.fn hgd (hr.mono (by decide)) (by rfl) c__law_asked.mg c__law_asked.kp c__law_asked.b .nil VS.pass0 (pa_cons (pv 0) (pa_cons (pv 4) (pa_cons (pv 1) (pa_cons (pv 2) pa_nil))))) (pg_tup (n := 2) rfl (pgs_cons (pg_name (i := 5) sc__law_right.nd rfl (Or.inl rfl)) (pgs_cons (pg_name (i := 6) sc__law_right.nd rfl (Or.inl rfl)) pgs_nil))))
        (pss_cons (ps_if (pt_cmpR op_ne (pv 3) (pe_cmpR op_eq (pv 5) pe_str (nomark _)) (nomark _)) (pss_one (ps_ret pe_bl))
        pss_nil)
        (pss_cons (ps_if (PW.pt (pw_and (pt_not (pt_val (pv 3))) (pw_and1 (pt_val (pe_callB c_isiZ (by rfl) T.b_isinstance (by decide +kernel) (pa_cons (pv 1) (pa_cons (pe_bltn (v := .ty "list") (by rfl) T.b_list (by decide +kernel) rfl) pa_nil))))))) (pss_one (ps_expr (pe_bm PySem.F.plainAttrs_list PySem.F.slot_list_append PySem.F.type_list_append mt_append (pv 1) (pa_cons pe_str pa_nil))))
        pss_nil)
        (pss_cons (ps_if (PW.pt (pw_and (pt_not (pt_val (pv 3))) (pw_and1 (PW.pt (pw_or (pt_cmpR op_ne (pv 5) pe_str (nomark _)) (pw_or1 (pt_cmpR op_ne (pe_callB (c_reprB c_Sides___repr__.fn hgd (hr.mono (by decide)) c_Sides___repr__.me.at_ c_Sides___repr__.me.fn c_Sides___repr__.b hsys) (by rfl) T.b_repr (by decide +kernel) (pa_cons (pv 6) pa_nil)) (pe_callB (c_reprB c_Sides___repr__.fn hgd (hr.mono (by decide)) c_Sides___repr__.me.at_ c_Sides___repr__.me.fn c_Sides___repr__.b hsys) (by rfl) T.b_repr (by decide +kernel) (pa_cons (pv 1) pa_nil)) (nomark _)))))))) (pss_one (ps_ret pe_bl))
        pss_nil)
        (pss_one (ps_if (PW.pt (pw_and (pt_val (pv 3)) (pw_and (pt_cmpR op_eq (pv 4) pe_int (nomark _)) (pw_and1 (pt_cmpR op_isNotBl (pv 6) pe_bl (nomark _)))))) (pss_one (ps_ret pe_bl))
        pss_nil)))))))
        (pss_one (ps_ret pe_bl)))), ?_⟩
      (try dsimp only [cxOf, List.map])
      show VX _ _ [_, _, _, _, _, _, _] _ _
      rcases q with ⟨qs, sq, so, q⟩ | ⟨ip, nl, nb, xl, sh, q⟩ | ⟨rfl, q⟩ | ⟨s, ys, rfl, c, nsh, nsl, nb, yl, yn, q⟩
      · have c1 := hs.1
        walk_at "gr"
        refine ⟨ps.map Pc.nm, d, rfl, kn12, .inl ⟨d, .v sq.p, by rw [sq.r, List.length_map, List.length_map]; have := so.len p12; omega, ?_⟩⟩
        rw [namG_sq sq so (Int.natCast_nonneg _)]
        walk_at "gr"
        refine vx_for (vi_list ?_)
        refine ve_lst ?_
        walk_at "gr"
        refine ⟨_, .v, fun i ρ2 S2 => Ext S S2 ∧ ∃ x4 x5 x6, ρ2 = [some (.ref h), some d, some e, some (.bl true), x4, x5, x6], ⟨.refl, _, _, _, rfl⟩, ?_, ?_⟩
        · rintro i dz _ S2 hd ⟨x, x4, x5, x6, rfl⟩
          obtain ⟨wy, rfl, hw⟩ := ways4 i dz hd
          have hs2 := hs.ext x
          walk_at "gr"
          refine .inl ⟨h, l, ps, qs, d, e, wy, rfl, hs2, hp, sq, so, tke, hw, fun r S3 x3 hr3 => ?_⟩
          walk_at "gr"
          refine ⟨fun z => ?_, fun _ => ?_⟩
          · have e2 := hr3 (of_decide_eq_true z)
            rw [ho.2] at e2
            subst e2
            walk_at "gr"
            refine rv_isnotBl ?_
            walk_at "gr"
            exact ⟨x.trans x3, _, _, _, rfl⟩
          · walk_at "gr"
            exact ⟨x.trans x3, _, _, _, rfl⟩
        · rintro _ S2 ⟨x, x4, x5, x6, rfl⟩
          walk_at "gr"
          exact q S2 x
      · have c1 := hs.1
        walk_at "gr"
        refine ⟨ps.map Pc.nm, d, rfl, kn12, .inl ⟨d, .v ip, xl, ?_⟩⟩
        rw [nb]
        walk_at "gr"
        refine vx_for (vi_list ?_)
        refine ve_lst ?_
        walk_at "gr"
        refine ⟨_, .v, fun i ρ2 S2 => S2 = S ∧ ∃ x4 x5 x6, ρ2 = [some (.ref h), some d, some e, some (.bl false), x4, x5, x6], ⟨rfl, _, _, _, rfl⟩, ?_, ?_⟩
        · rintro i dz _ S2 hd ⟨rfl, x4, x5, x6, rfl⟩
          obtain ⟨wy, rfl, hw⟩ := ways4 i dz hd
          walk_at "gr"
          refine .inr ⟨h, l, ps, d, e, wy, rfl, hs, p12, .d (.v ip) xl nb, hw, ?_⟩
          walk_at "gr"
          refine rc_isiD (.v ip) (isK_list ip) ?_
          rw [nl]
          walk_at "gr"
          refine rc_reprD (rc_reprS .v sh (by decide) (by decide) ?_)
          walk_at "gr"
          refine rc_reprD (rc_reprS .v sh (by decide) (by decide) ?_)
          refine rv_neSame ?_
          walk_at "gr"
          exact ⟨rfl, _, _, _, rfl⟩
        · rintro _ S2 ⟨rfl, x4, x5, x6, rfl⟩
          walk_at "gr"
          exact q
      · have c1 := hs.1
        walk_at "gr"
        refine ⟨ps.map Pc.nm, sd C_Sides 1 2 3, rfl, kn12, .inr ⟨_, _, .v, k_Sides.ins, k_Sides.u_list, k_Sides.u_tuple, ?_⟩⟩
        walk_at "gr"
        refine vx_for (vi_list ?_)
        refine ve_lst ?_
        walk_at "gr"
        refine ⟨_, .v, fun i ρ2 S2 => S2 = S ∧ ∃ x4 x5 x6, ρ2 = [some (.ref h), some (sd C_Sides 1 2 3), some e, some (.bl false), x4, x5, x6], ⟨rfl, _, _, _, rfl⟩, ?_, ?_⟩
        · rintro i dz _ S2 hd ⟨rfl, x4, x5, x6, rfl⟩
          obtain ⟨wy, rfl, hw⟩ := ways4 i dz hd
          walk_at "gr"
          refine .inr ⟨h, l, ps, sd C_Sides 1 2 3, e, wy, rfl, hs, p12, .o .v k_Sides.ins k_Sides.u_list k_Sides.u_tuple, hw, ?_⟩
          walk_at "gr"
          refine rc_isiP (.i .v k_Sides.ins) k_Sides.u_list ?_
          walk_at "gr"
          refine rc_reprO .v ⟨1, 2, 3, rfl, by unfold In1; decide, by unfold In1; decide, by unfold In1; decide, _, rfl, ?_⟩
          walk_at "gr"
          refine rc_reprO .v ⟨1, 2, 3, rfl, by unfold In1; decide, by unfold In1; decide, by unfold In1; decide, _, rfl, ?_⟩
          refine rv_neSame ?_
          walk_at "gr"
          exact ⟨rfl, _, _, _, rfl⟩
        · rintro _ S2 ⟨rfl, x4, x5, x6, rfl⟩
          walk_at "gr"
          exact q
      · have c1 := hs.1
        have pl : ∀ zs : List D, (∀ y ∈ zs, Nm1 y) → isP (.lst zs) = true := fun zs hz => (Rw.lst (n := zs.length) (Nat.le_refl _) hz).p
        walk_at "gr"
        refine ⟨ps.map Pc.nm, .ref s, rfl, kn12, .inl ⟨.lst ys, .c c (pl ys yn), by show ys.length ≤ 1000; omega, ?_⟩⟩
        rw [show namG (ps.map Pc.nm) 0 (.lst ys) = false from nb]
        walk_at "gr"
        refine vx_for (vi_list ?_)
        refine ve_lst ?_
        walk_at "gr"
        refine ⟨_, .v, fun i ρ2 S2 => ∃ (zs : List D) (x4 x5 x6 : Option D), S2 = VS.put S s (.lst zs) ∧ namB (ps.map Pc.nm) 0 zs = false ∧ zs.length ≤ 400 + i ∧ (∀ y ∈ zs, Nm1 y) ∧ ρ2 = [some (.ref h), some (.ref s), some e, some (.bl false), x4, x5, x6], ⟨ys, _, _, _, (put_eta c).symm, nb, yl, yn, rfl⟩, ?_, ?_⟩
        · rintro i dz _ S2 hd ⟨zs, x4, x5, x6, rfl, zb, zl, zn, rfl⟩
          obtain ⟨wy, rfl, hw⟩ := ways4 i dz hd
          have i4 : i < 4 := (List.getElem?_eq_some_iff.mp hd).1
          have hs2 : HpS (VS.put S s (.lst zs)) C_Heap C_Parcel C_Sides h l ps := ⟨(put_ne (Ne.symm nsh)).trans hs.1, (put_ne (Ne.symm nsl)).trans hs.2⟩
          walk_at "gr"
          refine .inr ⟨h, l, ps, .ref s, e, wy, rfl, hs2, p12, .d (.c put_same (pl zs zn)) (by show zs.length ≤ 1000; omega) zb, hw, ?_⟩
          walk_at "gr"
          refine rc_isi (N := "list") (b := true) (.cl put_same) (by decide +kernel) ?_
          walk_at "gr"
          refine rm_append put_same (by have := szl; omega) ?_
          rw [put_put]
          have zn2 : ∀ y ∈ zs ++ [.str "more"], Nm1 y := fun y hy => (List.mem_append.mp hy).elim (zn y) fun h => by rw [List.mem_singleton.mp h]; exact .inl ⟨_, rfl, Asc.lit (by decide)⟩
          have zl2 : (zs ++ [D.str "more"]).length ≤ 400 + (i + 1) := by rw [List.length_append]; show zs.length + 1 ≤ _; omega
          have sh := lst_sh40 zn2 (by omega)
          have zb2 := namB_more (m := "more") zb
          walk_at "gr"
          refine rc_reprD (rc_reprS (.c put_same nofun) sh (by decide) (by decide) ?_)
          walk_at "gr"
          refine rc_reprD (rc_reprS (.c put_same nofun) sh (by decide) (by decide) ?_)
          refine rv_neSame ?_
          walk_at "gr"
          exact ⟨_, _, _, _, rfl, zb2, zl2, zn2, rfl⟩
        · rintro _ S2 ⟨zs, x4, x5, x6, rfl, zb, zl, zn, rfl⟩
          walk_at "gr"
          exact q zs) only [↓VS.box]
end
end LW
namespace LW
open PySem L2 C8 PySem.Spec PyProof.Rows VS
/-! ### the four, called by names, on a stack of one and on all -/
theorem stkL_sub (qs : List Pc) : ∃ o, o.Perm qs ∧ (stkL qs).Sublist o := by
  unfold stkL
  split
  · exact ⟨srtM qs, srtM_perm qs, (List.take_sublist _ _).trans List.filter_sublist⟩
  · split
    · exact ⟨ordM qs, ordM_perm qs, List.Sublist.refl _⟩
    · obtain ⟨as, e⟩ := fltF_suf (ordM qs)
      refine ⟨ordM qs, ordM_perm qs, ?_⟩
      conv => rhs; rw [e]
      exact List.sublist_append_right ..
theorem stkL_mem {qs : List Pc} {z : Pc} (h : z ∈ stkL qs) : z ∈ qs := by
  obtain ⟨o, po, so⟩ := stkL_sub qs
  exact po.mem_iff.mp (so.subset h)
theorem stkL_nd {qs : List Pc} (h : (qs.map Pc.nm).Nodup) : ((stkL qs).map Pc.nm).Nodup := by
  obtain ⟨o, po, so⟩ := stkL_sub qs
  exact (((po.map Pc.nm).nodup_iff.mpr h).sublist (so.map Pc.nm))
theorem skB_of {w : Str} {zs : List Pc} {n : Nat} (h : ShP w zs n) : skB w zs n = true := by
  unfold skB
  rcases h with ⟨rfl, a, b⟩ | ⟨rfl, a, b⟩ | ⟨rfl, ⟨z0, hz0, t0⟩, b⟩
  · rw [if_pos rfl, decide_eq_true a, b]
    rfl
  · rw [if_neg (by decide), if_pos rfl, decide_eq_true a, Bool.true_and]
    exact List.all_eq_true.mpr b
  · rw [if_neg (by decide), if_neg (by decide), if_pos rfl]
    unfold hevB
    have m0 : z0 ∈ zs.filter (fun p => !tpB p) := List.mem_filter.mpr ⟨hz0, by show (!tpB z0) = true; rw [t0]; rfl⟩
    have e0 : (zs.filter fun p => !tpB p).isEmpty = false := by
      cases e : zs.filter (fun p => !tpB p) with
      | nil => rw [e] at m0; cases m0
      | cons => rfl
    rw [e0, Bool.not_false, Bool.true_and]
    refine List.all_eq_true.mpr fun z hz => decide_eq_true ?_
    obtain ⟨h1, h2⟩ := List.mem_filter.mp hz
    exact b z h1 (by simpa using h2)
theorem stk_shk {ps zs : List Pc} (hps : Hps ps) (so : Some_ ps zs) : shkB ps (zs.map Pc.nm) (.tup [.str (stkW zs), .lst (((stkL zs).map Pc.nm).map D.str)]) = true := by
  show (namB (ps.map Pc.nm) 0 (((stkL zs).map Pc.nm).map D.str) && (match txs (((stkL zs).map Pc.nm).map D.str) with | some us => us.all (fun z => decide (z ∈ zs.map Pc.nm)) && skB (stkW zs) (pcs ps us) (zs.map Pc.nm).length | none => false)) = true
  rw [txs_map]
  show (_ && (_ && _)) = true
  rw [namB_nd (stkL_nd so.n) (fun z hz => by
      obtain ⟨q, hq, rfl⟩ := List.mem_map.mp hz
      exact List.mem_map.mpr ⟨q, so.m q (stkL_mem hq), rfl⟩) (Int.natCast_nonneg _), pcs_of hps.n (fun q hq => so.m q (stkL_mem hq)), List.length_map, skB_of (stk_shown fun q hq => hps.g q (so.m q hq)), List.all_eq_true.mpr fun z hz => decide_eq_true (by
      obtain ⟨q, hq, rfl⟩ := List.mem_map.mp hz
      exact List.mem_map.mpr ⟨q, stkL_mem hq, rfl⟩)]
  rfl
theorem stkW_is (qs : List Pc) : stkW qs = "tops" ∨ stkW qs = "stack" ∨ stkW qs = "heavy" := by
  unfold stkW
  split
  · exact .inl rfl
  · split
    · exact .inr (.inl rfl)
    · exact .inr (.inr rfl)
theorem stk_ok {qs : List Pc} (hq : ∀ q ∈ qs, q.g) (hl : qs.length ≤ 12) : Ok (.tup [.str (stkW qs), .lst (((stkL qs).map Pc.nm).map D.str)]) 70000 6 := by
  have h1 : Ok (.str (stkW qs)) 30000 4 := (ok_strB (n := 5) (by rcases stkW_is qs with e | e | e <;> rw [e] <;> exact Asc.lit (by decide +kernel)) (by decide)).mono (by decide) (by decide)
  have h2 : Ok (.lst (((stkL qs).map Pc.nm).map D.str)) 30000 4 := ok_strs (fun z hz => by
    obtain ⟨p, hp, rfl⟩ := List.mem_map.mp hz
    exact (Pg.asc (hq p (stkL_mem hp))).mono (by decide)) (by
      obtain ⟨o, po, so⟩ := stkL_sub qs
      have := so.length_le
      rw [po.length_eq] at this
      rw [List.length_map]
      omega)
  exact (Ok.tup 2 (all2 h1 h2) (Nat.le_refl 2) (by decide) (by decide)).mono (by decide) (by decide)
theorem fil_one {rs : List Pc} (nd : (rs.map Pc.nm).Nodup) {r : Pc} (hr : r ∈ rs) : (rs.filter fun x => decide (x.nm = r.nm)) = [r] := by
  induction rs with
  | nil => cases hr
  | cons x xs ih =>
    rw [List.map_cons, List.nodup_cons] at nd
    rw [List.filter_cons]
    rcases List.mem_cons.mp hr with e | hr
    · subst e
      rw [if_pos (decide_eq_true rfl)]
      have : xs.filter (fun x => decide (x.nm = r.nm)) = [] := List.filter_eq_nil_iff.mpr fun y hy h => nd.1 (List.mem_map.mpr ⟨y, hy, of_decide_eq_true h⟩)
      rw [this]
    · have ne : x.nm ≠ r.nm := fun z => nd.1 (by rw [z]; exact List.mem_map.mpr ⟨r, hr, rfl⟩)
      rw [if_neg (by rw [decide_eq_false ne]; decide)]
      exact ih nd.2 hr
theorem fil_pos {α : Type} {f : α → Bool} {A : List α} {x : α} (h : f x = true) : (A ++ [x]).filter f = A.filter f ++ [x] := by
  rw [List.filter_append, List.filter_cons_of_pos h]
  rfl
theorem fil_neg {α : Type} {f : α → Bool} {A : List α} {x : α} (h : f x = false) : (A ++ [x]).filter f = A.filter f := by
  rw [List.filter_append, List.filter_cons_of_neg (by rw [h]; decide), List.filter_nil, List.append_nil]
theorem cut_one (x : D) (xs : List D) : VS.cutD (x :: xs) none (some 1) = [x] := by
  show ((x :: xs).drop 0).take (HT.sIx (x :: xs).length (x :: xs).length (some ((1 : Nat) : Int)) - 0) = _
  rw [HT.sIx_nat, List.length_cons, Nat.min_eq_left (by omega)]
  rfl
theorem up_nz (r : Pc) : (("upright" : Str) ∈ r.nz.mk) = (("upright" : Str) ∈ r.mk) := propext ⟨fun h => of_decide_eq_true (List.mem_filter.mp h).2, fun h => List.mem_filter.mpr ⟨by decide, decide_eq_true h⟩⟩
/-- the sides that may stand up -/
def upS (r : Pc) : List Int := if ("upright" : Str) ∈ r.mk then [r.c] else [r.a, r.b, r.c]
theorem upS_ne (r : Pc) : upS r ≠ [] := by unfold upS; split <;> nofun
theorem lo_of {r : Pc} {m : Int} (h1 : m ∈ upS r) (h2 : ∀ y ∈ upS r, m ≤ y) : m = r.nz.lo := by
  unfold Pc.lo
  unfold upS at h1 h2
  by_cases u : ("upright" : Str) ∈ r.mk
  · rw [if_pos u] at h1
    rw [if_pos (by rw [up_nz]; exact u)]
    exact List.mem_singleton.mp h1
  · rw [if_neg u] at h1 h2
    rw [if_neg (by rw [up_nz]; exact u)]
    show m = min (min r.a r.b) r.c
    have e1 := h2 r.a (by simp)
    have e2 := h2 r.b (by simp)
    have e3 := h2 r.c (by simp)
    simp only [List.mem_cons, List.not_mem_nil, or_false] at h1
    omega
theorem hi_of {r : Pc} {m : Int} (h1 : m ∈ upS r) (h2 : ∀ y ∈ upS r, y ≤ m) : m = r.nz.hi := by
  unfold Pc.hi
  unfold upS at h1 h2
  by_cases u : ("upright" : Str) ∈ r.mk
  · rw [if_pos u] at h1
    rw [if_pos (by rw [up_nz]; exact u)]
    exact List.mem_singleton.mp h1
  · rw [if_neg u] at h1 h2
    rw [if_neg (by rw [up_nz]; exact u)]
    show m = max (max r.a r.b) r.c
    have e1 := h2 r.a (by simp)
    have e2 := h2 r.b (by simp)
    have e3 := h2 r.c (by simp)
    simp only [List.mem_cons, List.not_mem_nil, or_false] at h1
    omega
theorem stk_sole {p : Pc} (h : p.g) : stkW [p] = "stack" ∧ stkL [p] = [p] := by
  have e : srtM [p] = [p] := List.perm_singleton.mp (srtM_perm [p])
  have eo : ordM [p] = [p] := List.perm_singleton.mp (ordM_perm [p])
  have n1 : ¬ 1 < ((srtM [p]).filter tpB).length := by
    have := List.length_filter_le tpB (srtM [p])
    rw [e] at this ⊢
    have l1 : [p].length = 1 := rfl
    omega
  have ef : fltF [p] = [] := by
    unfold fltF
    have w0 : wts [] = 0 := rfl
    rw [if_neg (fun z => z.elim (fun z => z.2 rfl) (fun z => by rw [w0] at z; have := h.br.1; omega))]
    rfl
  unfold stkW stkL
  rw [if_neg n1, if_neg n1, eo, if_pos ef, if_pos ef]
  exact ⟨rfl, rfl⟩
theorem flt_one {p : Pc} (h : p.g) : fltD [p] = .non := by
  unfold fltD
  rw [if_neg (fun z => z.2 rfl)]
  have : wts [] = 0 := rfl
  rw [if_neg (by rw [this]; have := h.br.1; omega)]
  rfl
def p_told40 (CH CP CS : Addr) : Pt := fun ds S G _ => ∃ (h l : Addr) (ps rs : List Pc) (ws : List Str), ds = [.ref h, .lst (rs.map rwD), .lst (ws.map D.str)] ∧ HpS S CH CP CS h l ps ∧ Hps ps ∧ Hps rs ∧ ps.Perm (rs.map Pc.nz) ∧ (∀ z ∈ ws, z ∈ ps.map Pc.nm) ∧ ws.Nodup ∧ ws ≠ [] ∧
  ∀ S', Ext S S' → G (.bl true) S'
section
variable {P : Program} {w : World} {K : PySem.W.Frag} {mg : Str → Option Value} {base : Heap}
theorem ok__law_told_right {f : Addr} {fd : FuncData} {C_Sides C_Parcel C_Heap C_NoSide C_NoNames : Addr} {f_heights f_stack_fault f_stacked f_shows_stacked : Addr} {g_heights g_stack_fault g_stacked g_shows_stacked : FuncData}
    (F : Fd K "_law_told_right" "_law_told_right" s__law_told_right [] f fd) (T : Tx K mg) (hsys : SysOk base)
    (c_heights : Cf P w K mg base (L2.CX P w) 5 "heights" s_heights [] a_heights (p_heights40 K C_Heap C_Parcel C_Sides C_NoNames) f_heights g_heights)
    (c_stack_fault : Cf P w K mg base (L2.CX P w) 5 "stack_fault" s_stack_fault [] a_stack_fault (p_stack_fault40 K C_Heap C_Parcel C_Sides C_NoNames) f_stack_fault g_stack_fault)
    (c_stacked : Cf P w K mg base (L2.CX P w) 5 "stacked" s_stacked [] a_stacked (p_stacked40 K C_Heap C_Parcel C_Sides C_NoNames) f_stacked g_stacked)
    (c_shows_stacked : Cf P w K mg base (L2.CX P w) 6 "shows_stacked" s_shows_stacked [] a_shows_stacked (p_shows_stacked40 K C_Heap C_Parcel C_Sides C_NoNames) f_shows_stacked g_shows_stacked)
    (k_Heap : Kl_Heap K mg C_Heap)
    (k_Parcel : Kl_Parcel K mg C_Parcel)
    (k_Sides : Kl_Sides K mg C_Sides) :
    FnG P w K mg base (L2.CX P w) 8 f fd a__law_told_right (spOf K (p_told40 C_Heap C_Parcel C_Sides)) := by
  refine VS.unbox ?_
  simp (disch := with_unfolding_all
    have kc_Heap := k_Heap.ins.cl
    have ka_Heap_held := k_Heap.a_held
    have ka_Heap_told := k_Heap.a_told
    have ka_Heap_kind := k_Heap.a_kind
    have kc_Parcel := k_Parcel.ins.cl
    have ka_Parcel_called := k_Parcel.a_called
    have ka_Parcel_outside := k_Parcel.a_outside
    have ka_Parcel_thick := k_Parcel.a_thick
    have ka_Parcel_heavy := k_Parcel.a_heavy
    have ka_Parcel_strong := k_Parcel.a_strong
    have ka_Parcel_marks := k_Parcel.a_marks
    have ka_Parcel_told := k_Parcel.a_told
    have ka_Parcel_names := k_Parcel.a_names
    have kc_Sides := k_Sides.ins.cl
    have ka_Sides_three := k_Sides.a_three
    refine fn_val F sc__law_told_right (fun ds S G Y h => ?_) (fun cdv A hgd outer s H E hr px tk po ds S G Y h => ?_)
    · obtain ⟨h, l, ps, rs, ws, rfl, _⟩ := h
      rfl
    · obtain ⟨h, l, ps, rs, ws, rfl, hs, hp, hr', pm, hw, nd, wne, q⟩ := h
      have p12 := hp.l
      have r12 := hr'.l
      obtain ⟨qs, rfl, so⟩ := some_of hw nd
      obtain ⟨q0, qr, rfl⟩ : ∃ q0 qr, qs = q0 :: qr := by
        cases qs with
        | nil => exact absurd rfl wne
        | cons x r => exact ⟨x, r, rfl⟩
      obtain ⟨r0, hr0, er0⟩ := List.mem_map.mp (pm.mem_iff.mp (so.m q0 (List.mem_cons_self ..)))
      subst er0
      have gr := hp.g _ (so.m _ (List.mem_cons_self ..))
      have lr : (rs.map rwD).length = rs.length := List.length_map ..
      have s1 : Some_ ps [r0.nz] := ⟨fun z hz => by rw [List.mem_singleton.mp hz]; exact so.m _ (List.mem_cons_self ..), by simp⟩
      have er : ∀ x, rwD x = .lst [.str x.nm, li x.a x.b x.c, .int x.wl, .int x.wt, .int x.br, .lst (x.mk.map D.str)] := fun _ => rfl
      have w0 : atI (((r0.nz :: qr).map Pc.nm).map D.str) 0 = some (.str r0.nm) := atI_zero
      refine ⟨_, (pss_cons (ps_set (i := 3) sc__law_told_right.nd rfl (Or.inl rfl) (pe_ix ix_list (pe_ix ix_list (pe_lc (own := [("_law_row", 6)]) rfl sc__law_told_right.nd (pi_list (pv 1)) (blkOk_by (own := [("_law_row", 6)]) (N := n__law_told_right) (sc := defScope s__law_told_right) (by decide +kernel)) (fun _ _ _ _ _ => (pg_name (i := 6) sc__law_told_right.nd rfl (Or.inl rfl))) (fun _ _ _ _ _ => (pts_one (pt_cmpR op_eq (pe_ix (kI (K := K) (r := rIxL) ix_list) (pv 6) pe_int (fun _ _ => rfl)) (pe_ix (kI (K := K) (r := rIxL) ix_list) (pv 2) pe_int (fun _ _ => rfl)) (nomark _)))) (fun _ _ _ _ _ => (pv 6))) pe_int (fun _ _ => rfl)) pe_int (fun _ _ => rfl)))
        (pss_cons (ps_if (pt_cmpR op_in_seq pe_str (pe_ix ix_list (pe_ix ix_list (pe_lc (own := [("_law_row", 6)]) rfl sc__law_told_right.nd (pi_list (pv 1)) (blkOk_by (own := [("_law_row", 6)]) (N := n__law_told_right) (sc := defScope s__law_told_right) (by decide +kernel)) (fun _ _ _ _ _ => (pg_name (i := 6) sc__law_told_right.nd rfl (Or.inl rfl))) (fun _ _ _ _ _ => (pts_one (pt_cmpR op_eq (pe_ix (kI (K := K) (r := rIxL) ix_list) (pv 6) pe_int (fun _ _ => rfl)) (pe_ix (kI (K := K) (r := rIxL) ix_list) (pv 2) pe_int (fun _ _ => rfl)) (nomark _)))) (fun _ _ _ _ _ => (pv 6))) pe_int (fun _ _ => rfl)) pe_int (fun _ _ => rfl)) (by rfl)) (pss_one (ps_set (i := 3) sc__law_told_right.nd rfl (Or.inl rfl) (pe_slice sl_list (pv 3) (po_some pe_int) po_none)))
        pss_nil)
        (pss_cons (ps_if (pt_cmpR (op_neP hr hsys) (pe_cGK0 c_heights.fn hgd (hr.mono (by decide)) (by rfl) c_heights.mg c_heights.kp (kbn c_heights.df 0 ["names", "heap"] [1, 0] (fun _ _ _ _ _ _ us ws h1 h2 => match us, ws, h1, h2 with | [], [_, _], _, _ => rfl)) VS.pass0 (pk_cons (pe_slice sl_list (pv 2) po_none (po_some pe_int)) (pk_cons (pv 0) pk_nil))) (pe_tup (pa_cons (pe_callB (cr_min rfl) (by rfl) T.b_min (by decide +kernel) (pa_cons (pv 3) pa_nil)) (pa_cons (pe_callB (cr_max rfl) (by rfl) T.b_max (by decide +kernel) (pa_cons (pv 3) pa_nil)) pa_nil))) (nomark _)) (pss_one (ps_ret pe_bl))
        pss_nil)
        (pss_cons (ps_if (PW.pt (pw_or (pt_cmpR op_notNo (pe_cGK0 c_stack_fault.fn hgd (hr.mono (by decide)) (by rfl) c_stack_fault.mg c_stack_fault.kp (kbn c_stack_fault.df 0 ["names", "heap"] [1, 0] (fun _ _ _ _ _ _ us ws h1 h2 => match us, ws, h1, h2 with | [], [_, _], _, _ => rfl)) VS.pass0 (pk_cons (pe_slice sl_list (pv 2) po_none (po_some pe_int)) (pk_cons (pv 0) pk_nil))) pe_non (nomark _)) (pw_or1 (pt_cmpR (op_neP hr hsys) (pe_cGK0 c_stacked.fn hgd (hr.mono (by decide)) (by rfl) c_stacked.mg c_stacked.kp (kbn c_stacked.df 0 ["heap", "names"] [0, 1] (fun _ _ _ _ _ _ us ws h1 h2 => match us, ws, h1, h2 with | [], [_, _], _, _ => rfl)) VS.pass0 (pk_cons (pv 0) (pk_cons (pe_slice sl_list (pv 2) po_none (po_some pe_int)) pk_nil))) (pe_tup (pa_cons pe_str (pa_cons (pe_slice sl_list (pv 2) po_none (po_some pe_int)) pa_nil))) (nomark _))))) (pss_one (ps_ret pe_bl))
        pss_nil)
        (pss_cons (ps_set (i := 4) sc__law_told_right.nd rfl (Or.inl rfl) (pe_cGK0 c_stacked.fn hgd (hr.mono (by decide)) (by rfl) c_stacked.mg c_stacked.kp (kbn c_stacked.df 0 ["names", "heap"] [1, 0] (fun _ _ _ _ _ _ us ws h1 h2 => match us, ws, h1, h2 with | [], [_, _], _, _ => rfl)) VS.pass0 (pk_cons (pv 2) (pk_cons (pv 0) pk_nil))))
        (pss_cons (ps_if (pt_cmpR op_isNotBl (pe_cGK0 c_shows_stacked.fn hgd (hr.mono (by decide)) (by rfl) c_shows_stacked.mg c_shows_stacked.kp (kbn c_shows_stacked.df 0 ["thing", "heap", "names"] [1, 2, 0] (fun _ _ _ _ _ _ us ws h1 h2 => match us, ws, h1, h2 with | [], [_, _, _], _, _ => rfl)) VS.pass0 (pk_cons (pv 4) (pk_cons (pv 0) (pk_cons (pv 2) pk_nil)))) pe_bl (nomark _)) (pss_one (ps_ret pe_bl))
        pss_nil)
        (pss_cons (ps_set (i := 5) sc__law_told_right.nd rfl (Or.inl rfl) (pe_cmpR op_isNo (pe_cGK0 c_stack_fault.fn hgd (hr.mono (by decide)) (by rfl) c_stack_fault.mg c_stack_fault.kp (kbn c_stack_fault.df 0 ["heap", "names"] [0, 1] (fun _ _ _ _ _ _ us ws h1 h2 => match us, ws, h1, h2 with | [], [_, _], _, _ => rfl)) VS.pass0 (pk_cons (pv 0) (pk_cons (pe_ix ix_tup (pv 4) pe_int (fun _ _ => rfl)) pk_nil))) pe_non (nomark _)))
        (pss_one (ps_ret (pe_or (pe_cmpR op_ne (pe_ix ix_tup (pv 4) pe_int (fun _ _ => rfl)) pe_str (nomark _)) (pe_one (pe_and (pv 5) (pe_one (pe_cmpR (op_eqP hr hsys) (pe_callB c_sortedS (by rfl) T.b_sorted (by decide +kernel) (pa_cons (pe_ix ix_tup (pv 4) pe_int (fun _ _ => rfl)) pa_nil)) (pe_callB c_sortedS (by rfl) T.b_sorted (by decide +kernel) (pa_cons (pv 2) pa_nil)) (nomark _))))))))))))))), ?_⟩
      (try dsimp only [cxOf, List.map])
      show VX _ _ [_, _, _, _, _, _, _] _ _
      walk_at "gr"
      refine ve_lc (vi_list ?_)
      walk_at "gr"
      refine ⟨_, .v, by rw [lr]; omega, fun i acc S2 => acc = ((rs.take i).filter fun x => decide (x.nm = r0.nm)).map rwD ∧ S2 = S, ⟨rfl, rfl⟩, ?_, ?_⟩
      · rintro i dz acc S2 hd ⟨rfl, rfl⟩ _
        rw [List.getElem?_map] at hd
        cases e : rs[i]? with
        | none => rw [e] at hd; cases hd
        | some x =>
          rw [e] at hd
          cases hd
          have tk : rs.take (i + 1) = rs.take i ++ [x] := by rw [List.take_succ, e]; rfl
          have ex := er x
          generalize rwD x = dx at ex
          walk_at "gr"
          rw [ex]
          walk_at "gr"
          refine rv_ixL .v atI_zero ?_
          walk_at "gr"
          refine ⟨fun eb => ?_, fun eb => ?_⟩
          · walk_at "gr"
            refine ⟨?_, rfl⟩
            rw [tk, fil_pos (f := fun x : Pc => decide (x.nm = r0.nm)) eb, List.map_append]
            rfl
          · refine ⟨?_, rfl⟩
            rw [tk, fil_neg (f := fun x : Pc => decide (x.nm = r0.nm)) eb]
      rintro acc S2 ⟨rfl, rfl⟩ _
      rw [lr, List.take_length, fil_one hr'.n hr0]
      walk_at "gr"
      refine ve_lc (vi_list ?_)
      walk_at "gr"
      refine ⟨_, .v, by rw [lr]; omega, fun i acc S3 => acc = ((rs.take i).filter fun x => decide (x.nm = r0.nm)).map rwD ∧ S3 = S2, ⟨rfl, rfl⟩, ?_, ?_⟩
      · rintro i dz acc S3 hd ⟨rfl, rfl⟩ _
        rw [List.getElem?_map] at hd
        cases e : rs[i]? with
        | none => rw [e] at hd; cases hd
        | some x =>
          rw [e] at hd
          cases hd
          have tk : rs.take (i + 1) = rs.take i ++ [x] := by rw [List.take_succ, e]; rfl
          have ex := er x
          generalize rwD x = dx at ex
          walk_at "gr"
          rw [ex]
          walk_at "gr"
          refine rv_ixL .v atI_zero ?_
          walk_at "gr"
          refine ⟨fun eb => ?_, fun eb => ?_⟩
          · walk_at "gr"
            refine ⟨?_, rfl⟩
            rw [tk, fil_pos (f := fun x : Pc => decide (x.nm = r0.nm)) eb, List.map_append]
            rfl
          · refine ⟨?_, rfl⟩
            rw [tk, fil_neg (f := fun x : Pc => decide (x.nm = r0.nm)) eb]
      rintro acc S3 ⟨rfl, rfl⟩ _
      rw [lr, List.take_length, fil_one hr'.n hr0]
      walk_at "gr"
      refine rv_in (.l .v) rfl (flat_strs _) ?_
      rw [inD_strs]
      refine ⟨_, rfl, ?_⟩
      refine brC (fun ρ2 S4 => S4 = S3 ∧ ρ2 = [some (.ref h), some (.lst (rs.map rwD)), some (.lst (((r0.nz :: qr).map Pc.nm).map D.str)), some (.lst ((upS r0).map D.int)), none, none, none]) (fun e => ?_) (fun e => ?_) ?_
      · walk_at "gr"
        unfold li
        refine rs_list .v ?_
        walk_at "gr"
        refine ⟨rfl, ?_⟩
        unfold upS
        rw [if_pos e]
        rfl
      · walk_at "gr"
        refine ⟨rfl, ?_⟩
        unfold upS
        rw [if_neg e]
        rfl
      rintro _ _ ⟨rfl, rfl⟩
      walk_at "gr"
      refine ve_kw (XOk.none (E := noE)) ?_
      walk_at "gr"
      refine rs_list .v ?_
      walk_at "gr"
      have ec : VS.cutD (List.map D.str (List.map Pc.nm (r0.nz :: qr))) none (some 1) = ([r0.nz].map Pc.nm).map D.str := cut_one _ _
      rw [ec]
      refine ⟨rfl, rfl, .inl ⟨h, l, ps, [r0.nz], _, rfl, hs, hp, SqD.lst _, s1, fun S4 x4 => ?_⟩⟩
      have hs4 := hs.ext x4
      have e1 : ([r0.nz].map Pc.lo).sum = r0.nz.lo := by show r0.nz.lo + 0 = _; omega
      have e2 : ([r0.nz].map Pc.hi).sum = r0.nz.hi := by show r0.nz.hi + 0 = _; omega
      rw [e1, e2]
      walk_at "gr"
      refine rc_minL .v (upS_ne r0) ?_
      walk_at "gr"
      refine rc_maxL .v (upS_ne r0) fun m hm1 hm2 => ?_
      rw [lo_of (minL_mem (upS_ne r0)) (fun y hy => minL_le hy), hi_of hm1 hm2]
      walk_at "gr"
      refine rv_neP .v .v rfl rfl rfl rfl ?_
      rw [SeqAt.eqv_refl _ rfl]
      walk_at "gr"
      refine ve_kw (XOk.none (E := noE)) ?_
      walk_at "gr"
      refine rs_list .v ?_
      walk_at "gr"
      rw [ec]
      refine ⟨rfl, rfl, .inl ⟨h, l, ps, [r0.nz], _, rfl, hs4, hp, SqD.lst _, s1, fun S5 x5 => ?_⟩⟩
      have hs5 := hs4.ext x5
      rw [flt_one gr]
      walk_at "gr"
      refine ve_kw (XOk.none (E := noE)) ?_
      walk_at "gr"
      refine rs_list .v ?_
      walk_at "gr"
      rw [ec]
      refine ⟨rfl, rfl, .inl ⟨h, l, ps, [r0.nz], _, rfl, hs5, hp, SqD.lst _, s1, fun l6 S6 f6 h6 x6 => ?_⟩⟩
      have hs6 := hs5.ext x6
      have k1 := stk_ok (qs := [r0.nz]) (fun z hz => by rw [List.mem_singleton.mp hz]; exact gr) (by show 1 ≤ 12; decide)
      rw [(stk_sole gr).1, (stk_sole gr).2] at *
      walk_at "gr"
      refine rs_list .v ?_
      walk_at "gr"
      rw [ec]
      refine rv_nePV (.tup (.cons .v (.cons (.c h6 nofun .v) .nil))) .v k1.sh.p k1.sh.p k1.s k1.s ?_
      rw [SeqAt.eqv_refl _ (SeqAt.canLay_of_shaped k1.s)]
      walk_at "gr"
      refine ve_kw (XOk.none (E := noE)) ?_
      walk_at "gr"
      refine ⟨rfl, rfl, .inl ⟨h, l, ps, r0.nz :: qr, _, rfl, hs6, hp, SqD.lst _, so, fun l7 S7 f7 h7 x7 => ?_⟩⟩
      refine vg_name ?_
      show VX _ _ [some (.ref h), some (.lst (rs.map rwD)), some (.lst (((r0.nz :: qr).map Pc.nm).map D.str)), some (.lst ((upS r0).map D.int)), some (.tup [.str (stkW (r0.nz :: qr)), .ref l7]), none, none] S7 _
      refine vx_see (fun a => a = l7) (fun a ha => by subst ha; exact ⟨_, h7, by nofun⟩) (VdR.refl.set 4 rfl (d' := .tup [.str (stkW (r0.nz :: qr)), .lst (((stkL (r0.nz :: qr)).map Pc.nm).map D.str)]) (.tup (.cons .v (.cons (.c (d := .lst (((stkL (r0.nz :: qr)).map Pc.nm).map D.str)) (by rw [onlyA_in (A := fun a => a = l7) rfl]; exact h7) nofun .v) .nil)))) ?_
      have hs7 := hs6.ext (ext_cut x7 (A := fun a => a = l7) (fun a ha => by subst ha; exact f7))
      have gq : ∀ q ∈ r0.nz :: qr, q.g := fun q hq => hp.g q (so.m q hq)
      have lq : (r0.nz :: qr).length ≤ 12 := so.len p12
      have k7 := stk_ok gq lq
      walk_at "gr"
      refine ve_kw (XOk.none (E := noE)) ?_
      walk_at "gr"
      refine ⟨rfl, rfl, .inl ⟨h, l, ps, r0.nz :: qr, _, _, rfl, hs7, hp, SqD.lst _, so, ⟨k7.sh.p, fun x xs e => by
        have e2 : D.lst (((stkL (r0.nz :: qr)).map Pc.nm).map D.str) = .lst xs := (List.cons.inj (List.cons.inj (D.tup.inj e)).2).1
        cases e2
        rw [List.length_map, List.length_map]
        obtain ⟨o, po, so'⟩ := stkL_sub (r0.nz :: qr)
        have := so'.length_le
        rw [po.length_eq] at this
        omega⟩, fun S8 x8 => ?_⟩⟩
      have hs8 := hs7.ext x8
      rw [stk_shk hp so]
      walk_at "gr"
      refine rv_isnotBl ?_
      walk_at "gr"
      refine ve_kw (XOk.none (E := noE)) ?_
      walk_at "gr"
      refine ⟨rfl, rfl, .inl ⟨h, l, ps, stkL (r0.nz :: qr), _, rfl, hs8, hp, SqD.lst _, ⟨fun z hz => so.m z (stkL_mem hz), stkL_nd so.n⟩, fun S9 x9 => ?_⟩⟩
      walk_at "gr"
      have x09 := ((((x4.trans x5).trans x6).trans (ext_cut x7 (A := fun a => a = l7) (fun a ha => by subst ha; exact f7))).trans x8).trans x9
      refine ⟨fun e => ?_, fun _ => q _ x09⟩
      have ew : stkW (r0.nz :: qr) = "stack" := by
        by_cases z : stkW (r0.nz :: qr) = "stack"
        · exact z
        · rw [decide_eq_false z] at e
          cases e
      have ef : fltD (stkL (r0.nz :: qr)) = .non := by
        rcases stk_shown gq with ⟨_, _, z⟩ | ⟨z, _⟩ | ⟨z, _⟩
        · exact z
        · rw [ew] at z
          exact absurd z (by decide)
        · rw [ew] at z
          exact absurd z (by decide)
      have eL : stkL (r0.nz :: qr) = ordM (r0.nz :: qr) := by
        unfold stkW at ew
        unfold stkL
        split at ew
        · exact absurd ew (by decide)
        · rename_i h1
          rw [if_neg h1]
          split at ew
          · rename_i h2
            rw [if_pos h2]
          · exact absurd ew (by decide)
      rw [ef]
      walk_at "gr"
      refine rc_sortedS .v fun s1 p1 t1 => ?_
      walk_at "gr"
      refine rc_sortedS .v fun s2 p2 t2 => ?_
      have es : s1 = s2 := by
        have pp : s1.Perm s2 := p1.trans (((by rw [eL]; exact ordM_perm _ : (stkL (r0.nz :: qr)).Perm (r0.nz :: qr)).map Pc.nm).trans p2.symm)
        exact pp.eq_of_pairwise (fun a b _ _ => leS_anti) (sortedS_pw t1) (sortedS_pw t2)
      subst es
      have k9 : Ok (.lst (s1.map D.str)) 30000 4 := ok_strs (fun z hz => by
        obtain ⟨p, hp, rfl⟩ := List.mem_map.mp (p2.mem_iff.mp hz)
        exact (Pg.asc (gq p hp)).mono (by decide)) (by rw [p2.length_eq, List.length_map]; omega)
      refine rv_eqP .v .v k9.sh.p k9.sh.p k9.s k9.s ?_
      rw [SeqAt.eqv_refl _ (SeqAt.canLay_of_shaped k9.s)]
      walk_at "gr"
      exact q _ x09) only [↓VS.box]
end
end LW
namespace LW
open PySem L2 C8 PySem.Spec PyProof.Rows VS
/-! ### the law -/
def p_law : Pt := fun ds S G _ => ∃ ns : List Int, ds = [.rol (ns.map .int)] ∧ ns.length ≤ 63 ∧ ∀ S', G (.bl true) S'
def hpD (CH l : Addr) : D := .ins CH [("held", .ref l)]
theorem Wd.hp {S : Sto} {p h l CH CP CS : Addr} {n : Int} {L : List (Addr × D)} {ps : List Pc} (w : Wd S p n L) (j k : Nat) (hj : L[j]? = some (h, hpD CH l)) (hk : L[k]? = some (l, .lst (ps.map (Pc.d CP CS)))) : HpS S CH CP CS h l ps := ⟨w.get j hj, w.get k hk⟩
theorem Wd.newE2 {S S' : Sto} {p h k : Addr} {n : Int} {L : List (Addr × D)} {d e : D} (w : Wd S p n L) (hh : S h = none) (hk : S k = none) (ne : h ≠ k) (x : Ext S S') (e1 : S' h = some d) (e2 : S' k = some e) : Wd S' p n ((h, d) :: (k, e) :: L) := by
  have v := w.ext x
  refine ⟨v.pu, fun y hy => ?_, fun y hy => ?_, ?_⟩
  · rcases List.mem_cons.mp hy with z | hy
    · rw [z]; exact e1
    · rcases List.mem_cons.mp hy with z | hy
      · rw [z]; exact e2
      · exact v.at_ y hy
  · rcases List.mem_cons.mp hy with z | hy
    · rw [z]; exact Ne.symm (w.pu.ne hh)
    · rcases List.mem_cons.mp hy with z | hy
      · rw [z]; exact Ne.symm (w.pu.ne hk)
      · exact w.ne y hy
  · rw [List.map_cons, List.map_cons, List.nodup_cons, List.nodup_cons]
    refine ⟨fun z => ?_, w.free hk, w.nd⟩
    rcases List.mem_cons.mp z with z | z
    · exact ne z
    · exact w.free hh z
theorem sk_tops {zs : List Pc} {n : Nat} (h : zs = []) : skB "tops" zs n = false := by
  subst h
  rfl
theorem sk_heavy {zs : List Pc} {n : Nat} (h : zs = []) : skB "heavy" zs n = false := by
  subst h
  rfl
theorem odT10 : ∀ e ∈ ([.non, .int 7, .bl true, .str "", .lst [], .tup [], .tup [.str "stack"], .tup [.str "tops", .lst []], .tup [.str "heavy", .lst []], .lst [.str "stack", .lst []]] : List D), OdT e := by
  refine ac ⟨⟨rfl, nofun⟩, fun _ _ => rfl⟩ (ac ⟨⟨rfl, nofun⟩, fun _ _ => rfl⟩ (ac ⟨⟨rfl, nofun⟩, fun _ _ => rfl⟩ (ac ⟨⟨rfl, nofun⟩, fun _ _ => rfl⟩ (ac ⟨⟨rfl, nofun⟩, fun _ _ => rfl⟩ (ac ⟨⟨rfl, nofun⟩, fun _ _ => rfl⟩ (ac ⟨⟨rfl, nofun⟩, fun _ _ => rfl⟩ (ac ⟨⟨rfl, fun x xs e => ?_⟩, fun ps ks => ?_⟩ (ac ⟨⟨rfl, fun x xs e => ?_⟩, fun ps ks => ?_⟩ (ac ⟨⟨rfl, nofun⟩, fun _ _ => rfl⟩ an)))))))))
  · cases e
    exact Nat.zero_le _
  · show (namB (ps.map Pc.nm) 0 [] && (([] : List Str).all (fun z => decide (z ∈ ks)) && skB "tops" (pcs ps []) ks.length)) = false
    rw [show skB "tops" (pcs ps []) ks.length = false from sk_tops rfl, Bool.and_false, Bool.and_false]
  · cases e
    exact Nat.zero_le _
  · show (namB (ps.map Pc.nm) 0 [] && (([] : List Str).all (fun z => decide (z ∈ ks)) && skB "heavy" (pcs ps []) ks.length)) = false
    rw [show skB "heavy" (pcs ps []) ks.length = false from sk_heavy rfl, Bool.and_false, Bool.and_false]
/-- names that are good ones -/
theorem good_of {ps : List Pc} {ys : List D} (h : namB (ps.map Pc.nm) 0 ys = true) : ∃ qs, ys = (qs.map Pc.nm).map D.str ∧ Some_ ps qs := by
  obtain ⟨zs, rfl, _, _, hz⟩ := namB_some h
  obtain ⟨qs, rfl, so⟩ := some_of hz (namB_nd' h)
  exact ⟨qs, rfl, so⟩
/-- some names, as they stand: good ones by value, or what became of them -/
def Nmz (S : Sto) (p : Addr) (n : Int) (L : List (Addr × D)) (ps : List Pc) (N : Nat) (d : D) : Prop := (∃ qs, d = .lst ((qs.map Pc.nm).map D.str) ∧ Some_ ps qs ∧ Wd S p n L) ∨ Sp40 S p n L N d
/-- so that they may be handed in -/
def Nmq (S : Sto) (p : Addr) (n : Int) (L : List (Addr × D)) (ps : List Pc) (d : D) : Prop :=
  (∃ qs, SqD d (qs.map Pc.nm) ∧ Some_ ps qs ∧ Wd S p n L) ∨ (isP d = true ∧ isK "list" d = false ∧ namG (ps.map Pc.nm) 0 d = false ∧ (rowsOf d).length ≤ 1000 ∧ Sh d 100000 8 ∧ Wd S p n L) ∨
  ∃ (a : Addr) (ys : List D), d = .ref a ∧ Wd S p n ((a, .lst ys) :: L) ∧ namB (ps.map Pc.nm) 0 ys = false ∧ ys.length ≤ 400 ∧ ∀ y ∈ ys, Nm1 y
theorem nm1_rows {d : D} (h : Nm1 d) : (rowsOf d).length ≤ 1000 := by
  rcases h with ⟨s, rfl, _⟩ | h
  · exact Nat.zero_le _
  · simp only [List.mem_cons, List.not_mem_nil, or_false] at h
    rcases h with rfl | rfl | rfl | rfl | rfl | rfl <;> decide
theorem Rw.nmq {N : Nat} {S : Sto} {p : Addr} {n : Int} {L : List (Addr × D)} {ps : List Pc} {d : D} (h : Rw N d) (hN : N ≤ 400) (nl : isK "list" d = false) (w : Wd S p n L) : Nmq S p n L ps d := by
  have ip := h.p
  have rs : (rowsOf d).length ≤ 1000 ∧ Sh d 100000 8 := by
    rcases h with ⟨xs, rfl | rfl, hl, hx⟩ | h
    · cases nl
    · exact ⟨by show xs.length ≤ 1000; omega, (Sh.tup (shl_all fun x hx' => (hx x hx').sh)).mono (by have := Nat.mul_le_mul_right (200 + 2) (Nat.le_trans hl hN); omega) (by decide)⟩
    · exact ⟨nm1_rows h, h.sh.mono (by decide) (by decide)⟩
  cases e : namG (ps.map Pc.nm) 0 d with
  | true =>
    unfold namG at e
    rw [Bool.and_eq_true] at e
    obtain ⟨qs, e2, so⟩ := good_of e.2
    exact .inl ⟨qs, ⟨ip, e.1, e2⟩, so, w⟩
  | false => exact .inr (.inl ⟨ip, nl, e, rs.1, rs.2, w⟩)
theorem Sp40.mono {S : Sto} {p : Addr} {n m : Int} {L : List (Addr × D)} {N : Nat} {d : D} (h : Sp40 S p n L N d) (l : n ≤ m) : Sp40 S p m L N d := by
  rcases h with ⟨a, ys, e, w, r⟩ | ⟨a, b, w⟩
  · exact .inl ⟨a, ys, e, w.mono l, r⟩
  · exact .inr ⟨a, b, w.mono l⟩
theorem vx_nmq {c : VS.Ctx} {t : TS} {S : Sto} {P : Po} {ρ : D → Rho} {p : Addr} {n : Int} {L : List (Addr × D)} {ps : List Pc} {N : Nat} {d : D} (hρ : ∀ d d', (ρ d).set 6 (some d') = ρ d') (h6 : ∀ d, (ρ d)[6]? = some (some d)) (hz : Nmz S p n L ps N d) (hN : N ≤ 400)
    (k : ∀ d S', Nmq S' p n L ps d → VX c t (ρ d) S' P) : VX c t (ρ d) S P := by
  rcases hz with ⟨qs, rfl, so, w⟩ | ⟨a, ys, rfl, w, yl, yn⟩ | ⟨hr, nl, w⟩
  · exact k _ _ (.inl ⟨qs, SqD.lst _, so, w⟩)
  · cases e : namB (ps.map Pc.nm) 0 ys with
    | false => exact k _ _ (.inr (.inr ⟨a, ys, rfl, w, e, by omega, yn⟩))
    | true =>
      obtain ⟨qs, rfl, so⟩ := good_of e
      refine vx_freeze 6 (h6 _) w.g0 ?_
      rw [hρ]
      exact k _ _ (.inl ⟨qs, SqD.lst _, so, w.dl 0 rfl⟩)
  · exact k _ _ (hr.nmq hN nl w)
theorem cut_strs (kn : List Str) (lo hi : Option Int) : ∃ us : List Str, VS.cutD (kn.map D.str) lo hi = us.map D.str ∧ us.Sublist kn := by
  unfold VS.cutD
  rw [← List.map_drop, ← List.map_take]
  exact ⟨_, rfl, (List.take_sublist _ _).trans (List.drop_sublist _ _)⟩
theorem gone_bad {ps : List Pc} (hps : Hps ps) {i : Nat} {q : Pc} (hi : ps[i]? = some q) {vs : List Str} (pv : vs.Perm (ps.map Pc.nm)) : q.nm ∉ (ps.eraseIdx i).map Pc.nm ∧ namB ((ps.eraseIdx i).map Pc.nm) 0 (vs.map D.str) = false := by
  have li : i < ps.length := (List.getElem?_eq_some_iff.mp hi).1
  have eq : ps[i] = q := (List.getElem?_eq_some_iff.mp hi).2
  have pm : ps.Perm (q :: ps.eraseIdx i) := by rw [← eq]; exact erase_perm li
  have nd := (pm.map Pc.nm).nodup_iff.mp hps.n
  rw [List.map_cons, List.nodup_cons] at nd
  refine ⟨nd.1, ?_⟩
  cases e : namB ((ps.eraseIdx i).map Pc.nm) 0 (vs.map D.str) with
  | false => rfl
  | true =>
    obtain ⟨zs, e2, _, _, hz⟩ := namB_some e
    have hv : q.nm ∈ vs := pv.mem_iff.mpr (List.mem_map.mpr ⟨q, List.mem_of_getElem? hi, rfl⟩)
    have hd : D.str q.nm ∈ zs.map D.str := by rw [← e2]; exact List.mem_map.mpr ⟨_, hv, rfl⟩
    obtain ⟨z, hz', e3⟩ := List.mem_map.mp hd
    cases e3
    exact absurd (hz _ hz') nd.1
theorem right_ok {K : PySem.W.Frag} {CH CP CS h k p : Addr} {n : Int} {S : Sto} {ps : List Pc} {d e : D} {G : D → Sto → Prop} {Y : Addr → List (Str × D) → Sto → Prop} (hp : Hps ps) (ho : OdT e) (w : Nmq S p n [(h, hpD CH k), (k, .lst (ps.map (Pc.d CP CS)))] ps d)
    (q : ∀ S', Wd S' p n [(h, hpD CH k), (k, .lst (ps.map (Pc.d CP CS)))] → G (.bl true) S') : p_right40 K CH CP CS [.ref h, d, e] S G Y := by
  rcases w with ⟨qs, sq, so, w⟩ | ⟨ip, nl, nb, rl, sh, w⟩ | ⟨a, ys, rfl, w, nb, yl, yn⟩
  · exact ⟨h, k, ps, d, e, rfl, w.hp 0 1 rfl rfl, hp, ho, .inl ⟨qs, sq, so, fun S' x => q _ (w.ext x)⟩⟩
  · exact ⟨h, k, ps, d, e, rfl, w.hp 0 1 rfl rfl, hp, ho, .inr (.inl ⟨ip, nl, nb, rl, sh, q _ w⟩)⟩
  · exact ⟨h, k, ps, _, e, rfl, w.hp 1 2 rfl rfl, hp, ho, .inr (.inr (.inr ⟨a, ys, rfl, w.g0, w.nij 0 1 rfl rfl (by decide), w.nij 0 2 rfl rfl (by decide), nb, yl, yn, fun zs => q _ (w.wr 0 rfl).tl⟩))⟩
theorem right_sd {K : PySem.W.Frag} {CH CP CS h k p : Addr} {n : Int} {S : Sto} {ps : List Pc} {e : D} {G : D → Sto → Prop} {Y : Addr → List (Str × D) → Sto → Prop} (hp : Hps ps) (ho : OdT e) (w : Wd S p n [(h, hpD CH k), (k, .lst (ps.map (Pc.d CP CS)))])
    (q : ∀ S', Wd S' p n [(h, hpD CH k), (k, .lst (ps.map (Pc.d CP CS)))] → G (.bl true) S') : p_right40 K CH CP CS [.ref h, sd CS 1 2 3, e] S G Y :=
  ⟨h, k, ps, _, e, rfl, w.hp 0 1 rfl rfl, hp, ho, .inr (.inr (.inl ⟨rfl, q _ w⟩))⟩
section
variable {P : Program} {w : World} {K : PySem.W.Frag} {mg : Str → Option Value} {base : Heap}
theorem ok_law {f : Addr} {fd : FuncData} {C_Sides C_Parcel C_Heap C_NoSide C_NoNames : Addr} {f__law_cell f__law_purse f__law_take f__law_pile f__law_heap f__law_shuffled f_Heap_names f__law_some f__law_told_right f__law_spoilt_names f__law_right f_Sides f_Heap_out f_Heap_put : Addr} {g__law_cell g__law_purse g__law_take g__law_pile g__law_heap g__law_shuffled g_Heap_names g__law_some g__law_told_right g__law_spoilt_names g__law_right g_Sides g_Heap_out g_Heap_put : FuncData}
    (F : Fd K "law" "law" s_law [] f fd) (T : Tx K mg) (hsys : SysOk base)
    (c__law_cell : Cf P w K mg base (L2.CX P w) 1 "_law_cell" s__law_cell [] a__law_cell p__law_cell f__law_cell g__law_cell)
    (c__law_purse : Cf P w K mg base (L2.CX P w) 1 "_law_purse" s__law_purse [] a__law_purse p__law_purse f__law_purse g__law_purse)
    (c__law_take : Cf P w K mg base (L2.CX P w) 1 "_law_take" s__law_take [] a__law_take p__law_take f__law_take g__law_take)
    (c__law_pile : Cf P w K mg base (L2.CX P w) 3 "_law_pile" s__law_pile [] a__law_pile p__law_pile f__law_pile g__law_pile)
    (c__law_heap : Cf P w K mg base (L2.CX P w) 5 "_law_heap" s__law_heap [] a__law_heap (p_heapP C_Heap C_Parcel C_Sides) f__law_heap g__law_heap)
    (c__law_shuffled : Cf P w K mg base (L2.CX P w) 2 "_law_shuffled" s__law_shuffled [] a__law_shuffled p_shuf40 f__law_shuffled g__law_shuffled)
    (c_Heap_names : Mf P w K mg base 2 C_Heap "names" "Heap.names" s_Heap_names [] a_Heap_names (p_Hp_names C_Heap C_Parcel C_Sides) f_Heap_names g_Heap_names)
    (c__law_some : Cf P w K mg base (L2.CX P w) 3 "_law_some" s__law_some [] a__law_some p__law_some f__law_some g__law_some)
    (c__law_told_right : Cf P w K mg base (L2.CX P w) 8 "_law_told_right" s__law_told_right [] a__law_told_right (p_told40 C_Heap C_Parcel C_Sides) f__law_told_right g__law_told_right)
    (c__law_spoilt_names : Cf P w K mg base (L2.CX P w) 2 "_law_spoilt_names" s__law_spoilt_names [] a__law_spoilt_names p_spoilt40 f__law_spoilt_names g__law_spoilt_names)
    (c__law_right : Cf P w K mg base (L2.CX P w) 9 "_law_right" s__law_right [] a__law_right (p_right40 K C_Heap C_Parcel C_Sides) f__law_right g__law_right)
    (c_Sides : Kf P w K mg base 3 "Sides" C_Sides "Sides.__init__" s_Sides___init__ [] a_Sides___init__ (p_Sides_init K C_Sides C_NoSide) f_Sides g_Sides)
    (c_Heap_out : Mf P w K mg base 3 C_Heap "out" "Heap.out" s_Heap_out [] a_Heap_out (p_Hp_out C_Heap C_Parcel C_Sides) f_Heap_out g_Heap_out)
    (c_Heap_put : Mf P w K mg base 3 C_Heap "put" "Heap.put" s_Heap_put [.non] a_Heap_put (p_Hp_putA C_Heap C_Parcel C_Sides) f_Heap_put g_Heap_put)
    (d_Heap_put2 : Bd K g_Heap_put a_Heap_put [.non])
    (k_Heap : Kl_Heap K mg C_Heap)
    (k_Parcel : Kl_Parcel K mg C_Parcel)
    (k_Sides : Kl_Sides K mg C_Sides) :
    FnG P w K mg base (L2.CX P w) 10 f fd a_law (spOf K p_law) := by
  refine VS.unbox ?_
  simp (disch := with_unfolding_all
    have kc_Heap := k_Heap.ins.cl
    have ka_Heap_held := k_Heap.a_held
    have ka_Heap_told := k_Heap.a_told
    have ka_Heap_kind := k_Heap.a_kind
    have kc_Parcel := k_Parcel.ins.cl
    have ka_Parcel_called := k_Parcel.a_called
    have ka_Parcel_outside := k_Parcel.a_outside
    have ka_Parcel_thick := k_Parcel.a_thick
    have ka_Parcel_heavy := k_Parcel.a_heavy
    have ka_Parcel_strong := k_Parcel.a_strong
    have ka_Parcel_marks := k_Parcel.a_marks
    have ka_Parcel_told := k_Parcel.a_told
    have ka_Parcel_names := k_Parcel.a_names
    have kc_Sides := k_Sides.ins.cl
    have ka_Sides_three := k_Sides.a_three
    refine fn_val F sc_law (fun ds S G Y h => ?_) (fun cdv A hgd outer s H E hr px tk po ds S G Y h => ?_)
    · obtain ⟨ns, rfl, _⟩ := h
      rfl
    · obtain ⟨ns, rfl, hn, q⟩ := h
      refine ⟨_, (pss_cons (ps_for po rfl (pi_range1 (by rfl) T.b_range (pa_cons (pe_callB (c_max2 rfl) (by rfl) T.b_max (by decide +kernel) (pa_cons pe_int (pa_cons (pe_callB (c_min2 rfl) (by rfl) T.b_min (by decide +kernel) (pa_cons pe_int (pa_cons (pe_callB c_len (by rfl) T.b_len (by decide +kernel) (pa_cons (pv 0) pa_nil)) pa_nil))) pa_nil))) pa_nil)) (pg_name (i := 1) sc_law.nd rfl (Or.inl rfl))
        (pss_cons (ps_set (i := 2) sc_law.nd rfl (Or.inl rfl) (pe_cG c__law_purse.fn hgd (hr.mono (by decide)) (by rfl) c__law_purse.mg c__law_purse.kp c__law_purse.b .nil VS.pass0 (pa_cons (pe_cG c__law_cell.fn hgd (hr.mono (by decide)) (by rfl) c__law_cell.mg c__law_cell.kp c__law_cell.b .nil VS.pass0 (pa_cons (pv 0) (pa_cons (pv 1) pa_nil))) pa_nil)))
        (pss_cons (ps_set (i := 3) sc_law.nd rfl (Or.inl rfl) (pe_cG c__law_pile.fn hgd (hr.mono (by decide)) (by rfl) c__law_pile.mg c__law_pile.kp c__law_pile.b .nil VS.pass0 (pa_cons (pv 2) pa_nil)))
        (pss_cons (ps_set (i := 4) sc_law.nd rfl (Or.inl rfl) (pe_cG c__law_heap.fn hgd (hr.mono (by decide)) (by rfl) c__law_heap.mg c__law_heap.kp c__law_heap.b .nil VS.pass0 (pa_cons (pe_cG c__law_shuffled.fn hgd (hr.mono (by decide)) (by rfl) c__law_shuffled.mg c__law_shuffled.kp c__law_shuffled.b .nil VS.pass0 (pa_cons (pv 2) (pa_cons (pv 3) pa_nil))) pa_nil)))
        (pss_cons (ps_set (i := 5) sc_law.nd rfl (Or.inl rfl) (pe_mG0 (pv 4) c_Heap_names.cl c_Heap_names.me c_Heap_names.fn hgd (hr.mono (by decide)) c_Heap_names.b .nil VS.pass0))
        (pss_cons (ps_set (i := 6) sc_law.nd rfl (Or.inl rfl) (pe_cG c__law_some.fn hgd (hr.mono (by decide)) (by rfl) c__law_some.mg c__law_some.kp c__law_some.b .nil VS.pass0 (pa_cons (pv 2) (pa_cons (pv 3) pa_nil))))
        (pss_cons (ps_set (i := 7) sc_law.nd rfl (Or.inl rfl) (pe_ix ix_list (pe_lst (pa_cons pe_non (pa_cons pe_int (pa_cons pe_bl (pa_cons pe_str (pa_cons (pe_lst pa_nil) (pa_cons (pe_tup pa_nil) (pa_cons (pe_tup (pa_cons pe_str pa_nil)) (pa_cons (pe_tup (pa_cons pe_str (pa_cons (pe_lst pa_nil) pa_nil))) (pa_cons (pe_tup (pa_cons pe_str (pa_cons (pe_lst pa_nil) pa_nil))) (pa_cons (pe_lst (pa_cons pe_str (pa_cons (pe_lst pa_nil) pa_nil))) pa_nil))))))))))) (pe_cG c__law_take.fn hgd (hr.mono (by decide)) (by rfl) c__law_take.mg c__law_take.kp c__law_take.b .nil VS.pass0 (pa_cons (pv 2) (pa_cons pe_int pa_nil))) (fun _ _ => rfl)))
        (pss_cons (ps_if (PW.pt (pw_and (pt_cmpR (op_neE hr) (pv 5) (pe_lst pa_nil) (nomark _)) (pw_and1 (pt_not (pt_val (pe_cG c__law_told_right.fn hgd (hr.mono (by decide)) (by rfl) c__law_told_right.mg c__law_told_right.kp c__law_told_right.b .nil VS.pass0 (pa_cons (pv 4) (pa_cons (pv 3) (pa_cons (pe_cG c__law_shuffled.fn hgd (hr.mono (by decide)) (by rfl) c__law_shuffled.mg c__law_shuffled.kp c__law_shuffled.b .nil VS.pass0 (pa_cons (pv 2) (pa_cons (pv 5) pa_nil))) pa_nil))))))))) (pss_one (ps_ret pe_bl))
        pss_nil)
        (pss_cons (ps_for po rfl (pi_range1 (by rfl) T.b_range (pa_cons (pe_cG c__law_take.fn hgd (hr.mono (by decide)) (by rfl) c__law_take.mg c__law_take.kp c__law_take.b .nil VS.pass0 (pa_cons (pv 2) (pa_cons pe_int pa_nil))) pa_nil)) (pg_name (i := 8) sc_law.nd rfl (Or.inl rfl))
        (pss_one (ps_if (pt_val (pe_callB c_isiZ (by rfl) T.b_isinstance (by decide +kernel) (pa_cons (pv 6) (pa_cons (pe_bltn (v := .ty "list") (by rfl) T.b_list (by decide +kernel) rfl) pa_nil)))) (pss_one (ps_set (i := 6) sc_law.nd rfl (Or.inl rfl) (pe_cG c__law_spoilt_names.fn hgd (hr.mono (by decide)) (by rfl) c__law_spoilt_names.mg c__law_spoilt_names.kp c__law_spoilt_names.b .nil VS.pass0 (pa_cons (pv 2) (pa_cons (pv 5) (pa_cons (pv 6) pa_nil))))))
        pss_nil)))
        (pss_cons (ps_if (PW.pt (pw_or (pt_not (pt_val (pe_cG c__law_right.fn hgd (hr.mono (by decide)) (by rfl) c__law_right.mg c__law_right.kp c__law_right.b .nil VS.pass0 (pa_cons (pv 4) (pa_cons (pv 6) (pa_cons (pv 7) pa_nil)))))) (pw_or1 (pt_not (pt_val (pe_cG c__law_right.fn hgd (hr.mono (by decide)) (by rfl) c__law_right.mg c__law_right.kp c__law_right.b .nil VS.pass0 (pa_cons (pv 4) (pa_cons (pe_kG c_Sides.mk_ c_Sides.fn hgd (hr.mono (by decide)) (by rfl) c_Sides.mg  c_Sides.b .nil VS.pass0 (pa_cons pe_int (pa_cons pe_int (pa_cons pe_int pa_nil)))) (pa_cons (pv 7) pa_nil))))))))) (pss_one (ps_ret pe_bl))
        pss_nil)
        (pss_cons (ps_if (pt_not (pt_val (pe_cG c__law_right.fn hgd (hr.mono (by decide)) (by rfl) c__law_right.mg c__law_right.kp c__law_right.b .nil VS.pass0 (pa_cons (pv 4) (pa_cons (pe_op op_rep (pe_lst (pa_cons pe_str pa_nil)) pe_int) (pa_cons (pv 7) pa_nil)))))) (pss_one (ps_ret pe_bl))
        pss_nil)
        (pss_cons (ps_for po rfl (pi_list (pe_lst (pa_cons (pe_slice sl_list (pv 5) (po_some pe_int) po_none) (pa_cons (pv 5) (pa_cons (pe_revL (pv 5)) (pa_cons (pe_slice sl_list (pv 5) po_none (po_some pe_int)) (pa_cons (pv 5) pa_nil))))))) (pg_name (i := 9) sc_law.nd rfl (Or.inl rfl))
        (pss_cons (ps_if (PW.pt (pw_or (pt_not (pt_val (pe_cG c__law_right.fn hgd (hr.mono (by decide)) (by rfl) c__law_right.mg c__law_right.kp c__law_right.b .nil VS.pass0 (pa_cons (pv 4) (pa_cons (pe_callTy c_list (by rfl) T.b_list (by decide +kernel) (pa_cons (pv 9) pa_nil)) (pa_cons (pv 7) pa_nil)))))) (pw_or1 (pt_not (pt_val (pe_cG c__law_right.fn hgd (hr.mono (by decide)) (by rfl) c__law_right.mg c__law_right.kp c__law_right.b .nil VS.pass0 (pa_cons (pv 4) (pa_cons (pe_callTy c_tuple (by rfl) T.b_tuple (by decide +kernel) (pa_cons (pv 9) pa_nil)) (pa_cons (pv 7) pa_nil))))))))) (pss_one (ps_ret pe_bl))
        pss_nil)
        (pss_one (ps_if (PW.pt (pw_and (pt_cmpR (op_neE hr) (pv 9) (pe_lst pa_nil) (nomark _)) (pw_and1 (pt_not (pt_val (pe_cG c__law_told_right.fn hgd (hr.mono (by decide)) (by rfl) c__law_told_right.mg c__law_told_right.kp c__law_told_right.b .nil VS.pass0 (pa_cons (pv 4) (pa_cons (pv 3) (pa_cons (pv 9) pa_nil))))))))) (pss_one (ps_ret pe_bl))
        pss_nil))))
        (pss_one (ps_if (pt_cmpR (op_neE hr) (pv 5) (pe_lst pa_nil) (nomark _)) (pss_cons (ps_set (i := 10) sc_law.nd rfl (Or.inl rfl) (pe_ix ix_list (pv 5) (pe_cG c__law_take.fn hgd (hr.mono (by decide)) (by rfl) c__law_take.mg c__law_take.kp c__law_take.b .nil VS.pass0 (pa_cons (pv 2) (pa_cons (pe_callB c_len (by rfl) T.b_len (by decide +kernel) (pa_cons (pv 5) pa_nil)) pa_nil))) (fun _ _ => rfl)))
        (pss_cons (ps_set (i := 11) sc_law.nd rfl (Or.inl rfl) (pe_mG (pv 4) c_Heap_out.cl c_Heap_out.me c_Heap_out.fn hgd (hr.mono (by decide)) c_Heap_out.b .nil VS.pass0 (pa_cons (pv 10) pa_nil)))
        (pss_cons (ps_if (pt_not (pt_val (pe_cG c__law_right.fn hgd (hr.mono (by decide)) (by rfl) c__law_right.mg c__law_right.kp c__law_right.b .nil VS.pass0 (pa_cons (pv 4) (pa_cons (pe_cG c__law_shuffled.fn hgd (hr.mono (by decide)) (by rfl) c__law_shuffled.mg c__law_shuffled.kp c__law_shuffled.b .nil VS.pass0 (pa_cons (pv 2) (pa_cons (pv 5) pa_nil))) (pa_cons (pv 7) pa_nil)))))) (pss_one (ps_ret pe_bl))
        pss_nil)
        (pss_cons (ps_expr (pe_mG (pv 4) c_Heap_put.cl c_Heap_put.me c_Heap_put.fn hgd (hr.mono (by decide)) d_Heap_put2.b d_Heap_put2.v VS.pass0 (pa_cons (pv 11) pa_nil)))
        (pss_one (ps_if (pt_not (pt_val (pe_cG c__law_right.fn hgd (hr.mono (by decide)) (by rfl) c__law_right.mg c__law_right.kp c__law_right.b .nil VS.pass0 (pa_cons (pv 4) (pa_cons (pe_cG c__law_shuffled.fn hgd (hr.mono (by decide)) (by rfl) c__law_shuffled.mg c__law_shuffled.kp c__law_shuffled.b .nil VS.pass0 (pa_cons (pv 2) (pa_cons (pv 5) pa_nil))) (pa_cons (pv 7) pa_nil)))))) (pss_one (ps_ret pe_bl))
        pss_nil))))))
        pss_nil))))))))))))))
        (pss_one (ps_ret pe_bl))), ?_⟩
      (try dsimp only [cxOf, List.map])
      show VX _ _ [_, _, _, _, _, _, _, _, _, _, _, _] _ _
      walk_at "gr"
      refine vx_for (vi_cells (by decide) (by decide) (by decide) rfl fun j j0 j1 => ?_)
      refine ⟨fun i ρ2 S2 => ∃ x1 x2 x3 x4 x5 x6 x7 x8 x9 x10 x11, ρ2 = [some (.rol (ns.map .int)), x1, x2, x3, x4, x5, x6, x7, x8, x9, x10, x11], ⟨_, _, _, _, _, _, _, _, _, _, _, rfl⟩, ?_, ?_⟩
      · rintro i0 d_ _ S2 hd_ ⟨x1, x2, x3, x4, x5, x6, x7, x8, x9, x10, x11, rfl⟩
        obtain ⟨rfl, hi⟩ := rngD_at hd_
        walk_at "gr"
        intro p S3 hp0 h3 o3
        clear o3 hp0
        walk_at "gr"
        refine ⟨p, _, rfl, h3, by decide, fun l rs S4 hrs nl npl hl4 h4 o4 => ?_⟩
        have w4 : Wd S4 p 1000 [(l, .lst (rs.map rwD))] := (Wd.of h3).new1 nl h4 o4 hl4
        clear h3 o4 nl h4
        have r12 := hrs.l
        walk_at "gr"
        refine .inl ⟨p, _, _, _, rfl, .c hl4, w4.pu, by decide, by rw [List.length_map]; omega, fun us S5 pm h5 o5 => ?_⟩
        have w5 := w4.ex1 h5 o5
        clear h5 o5 hl4 w4
        obtain ⟨ts, rfl, pts⟩ := perm_map_ex pm
        have hts := hrs.perm pts
        walk_at "gr"
        refine ⟨ts, rfl, hts, fun h k S6 nh nk x6 hs6 => ?_⟩
        have w6 : Wd S6 p 1100 [(h, hpD C_Heap k), (k, .lst ((ts.map Pc.nz).map (Pc.d C_Parcel C_Sides))), (l, .lst (rs.map rwD))] := (w5.newE2 nh nk hs6.ne x6 hs6.1 hs6.2).mono (by decide)
        clear w5 nh nk x6 hs6
        have hps := hts.nz
        have pmn : (ts.map Pc.nz).Perm (rs.map Pc.nz) := pts.map _
        have nmr : ∀ z, z ∈ rs.map Pc.nm → z ∈ (ts.map Pc.nz).map Pc.nm := fun z hz => by rw [nm_nz]; exact (pts.map Pc.nm).mem_iff.mpr hz
        generalize ts.map Pc.nz = ps at w6 hps pmn nmr
        clear pts hts pm
        have c1 : S6 h = some (.ins C_Heap [("held", .ref k)]) := w6.g0
        walk_at "gr"
        refine ⟨h, k, ps, rfl, w6.hp 0 1 rfl rfl, hps.l, ?_⟩
        walk_at "gr"
        refine ⟨p, l, _, rs, rfl, w6.get 2 rfl, hrs, w6.pu, by decide, fun ws S7 wm wn h7 o7 => ?_⟩
        have w7 := w6.ex1 h7 o7
        clear h7 o7 w6 c1
        obtain ⟨qs, rfl, so⟩ := some_of (fun z hz => nmr z (wm z hz)) wn
        refine vg_name ?_
        show VX _ _ [some (.rol (ns.map .int)), some (.int (i0 : Nat)), some (.ref p), some (.ref l), some (.ref h), some (.lst ((ps.map Pc.nm).map D.str)), some (.lst ((qs.map Pc.nm).map D.str)), x7, x8, x9, x10, x11] S7 _
        refine vx_freeze 3 rfl (w7.get 2 rfl) ?_
        have w8 := w7.dl 2 rfl
        show VX _ _ [some (.rol (ns.map .int)), some (.int (i0 : Nat)), some (.ref p), some (.lst (rs.map rwD)), some (.ref h), some (.lst ((ps.map Pc.nm).map D.str)), some (.lst ((qs.map Pc.nm).map D.str)), x7, x8, x9, x10, x11] _ _
        change Wd _ _ _ [(h, hpD C_Heap k), (k, .lst (ps.map (Pc.d C_Parcel C_Sides)))] at w8
        generalize VS.del S7 l = S8 at w8 ⊢
        clear w7
        walk_at "gr"
        iterate 6 (refine ve_lst ?_; walk_at "gr")
        intro o1 S9 o2 o3 w9
        refine rv_ixAll OdT o2 o3 odT10 fun e ho => ?_
        clear w8
        refine vg_name ?_
        refine vx_join (fun ρ2 S10 => Wd S10 p 1600 [(h, hpD C_Heap k), (k, .lst (ps.map (Pc.d C_Parcel C_Sides)))] ∧ ρ2 = [some (.rol (ns.map .int)), some (.int (i0 : Nat)), some (.ref p), some (.lst (rs.map rwD)), some (.ref h), some (.lst ((ps.map Pc.nm).map D.str)), some (.lst ((qs.map Pc.nm).map D.str)), some e, x8, x9, x10, x11]) ?_ ?_
        · walk_at "gr"
          refine ve_lst ?_
          walk_at "gr"
          refine ⟨fun en => ?_, fun _ => ?_⟩
          · walk_at "gr"
            refine .inl ⟨p, _, _, _, rfl, .v, w9.pu, by decide, by rw [List.length_map]; have := hps.nmlen; omega, fun us S10 pm h10 o10 => ?_⟩
            obtain ⟨vs, rfl, pv⟩ := perm_strs pm
            have w10 := w9.ex1 h10 o10
            have vne : vs ≠ [] := fun z => by
              subst z
              rw [← List.Perm.nil_eq pv] at en
              cases en
            walk_at "gr"
            refine ⟨h, k, ps, rs, vs, rfl, w10.hp 0 1 rfl rfl, hps, hrs, pmn, fun z hz => pv.mem_iff.mp hz, pv.nodup_iff.mpr hps.n, vne, fun S11 x11 => ?_⟩
            walk_at "gr"
            exact ⟨(w10.ext x11).mono (by decide), rfl⟩
          · walk_at "gr"
            exact ⟨w9.mono (by decide), rfl⟩
        clear w9
        rintro _ S10 ⟨w10, rfl⟩
        have aks : ∀ z ∈ ps.map Pc.nm, Asc 19 z := fun z hz => hps.asc hz
        have nk : ∀ {zs : List Pc}, Some_ ps zs → ∀ x ∈ (zs.map Pc.nm).map D.str, Nm1 x := fun so x hx => by
          obtain ⟨z, hz, rfl⟩ := List.mem_map.mp hx
          obtain ⟨y, hy, rfl⟩ := List.mem_map.mp hz
          exact .inl ⟨_, rfl, aks _ (List.mem_map.mpr ⟨y, so.m y hy, rfl⟩)⟩
        walk_at "gr"
        refine vx_for (vi_rng1 ?_)
        walk_at "gr"
        intro t S11 t0 t1 w11
        clear w10
        walk_at "gr"
        refine ⟨t, rfl, ⟨by omega, by omega⟩, fun i ρ2 S12 => ∃ (d : D) (x8 : Option D) (N : Nat), N + 1 ≤ 13 * 2 ^ i ∧ Nmz S12 p (1700 + 6 * (i : Nat)) [(h, hpD C_Heap k), (k, .lst (ps.map (Pc.d C_Parcel C_Sides)))] ps N d ∧ ρ2 = [some (.rol (ns.map .int)), some (.int (i0 : Nat)), some (.ref p), some (.lst (rs.map rwD)), some (.ref h), some (.lst ((ps.map Pc.nm).map D.str)), some d, some e, x8, x9, x10, x11], ⟨_, x8, 12, by decide, .inl ⟨qs, rfl, so, w11.mono (by decide)⟩, rfl⟩, ?_, ?_⟩
        · rintro i dz _ S12 hd ⟨d, x8, N, hN, hz, rfl⟩
          obtain ⟨rfl, hi⟩ := rngD_at hd
          have i2 : i ≤ 1 := by omega
          have p2 : (2 : Nat) ^ (i + 1) = 2 * 2 ^ i := by rw [Nat.pow_succ, Nat.mul_comm]
          have p1 : 1 ≤ (2 : Nat) ^ i := Nat.one_le_two_pow
          have p4 : (2 : Nat) ^ i ≤ 2 := by
            have : i = 0 ∨ i = 1 := by omega
            rcases this with rfl | rfl <;> decide
          rcases hz with ⟨qs, rfl, so, w12⟩ | ⟨a, ys, rfl, w12, yl, yn⟩ | ⟨hr, nl, w12⟩
          · have q12 := so.len hps.l
            walk_at "gr"
            refine ⟨p, _, _, ps.map Pc.nm, (qs.map Pc.nm).map D.str, _, _, rfl, w12, fun _ _ w => ⟨.v, w⟩, by omega, aks, hps.nmlen, by rw [List.length_map, List.length_map]; omega, nk so, fun S13 w13 => ?_, fun d S13 sp => ?_⟩
            · walk_at "gr"
              exact ⟨_, _, 12, by omega, .inl ⟨qs, rfl, so, w13.mono (by omega)⟩, rfl⟩
            · rw [List.length_map, List.length_map] at sp
              walk_at "gr"
              exact ⟨_, _, _, by omega, .inr (sp.mono (by omega)), rfl⟩
          · walk_at "gr"
            refine rc_isi (N := "list") (b := true) (.cl w12.g0) (by decide +kernel) ?_
            walk_at "gr"
            refine ⟨p, _, _, ps.map Pc.nm, ys, _, _, rfl, w12, fun _ _ w => ⟨.c w.g0, w.tl⟩, by omega, aks, hps.nmlen, by omega, yn, fun S13 w13 => ?_, fun d S13 sp => ?_⟩
            · walk_at "gr"
              exact ⟨_, _, N, by omega, .inr (.inl ⟨a, ys, rfl, w13.mono (by omega), yl, yn⟩), rfl⟩
            · walk_at "gr"
              exact ⟨_, _, _, by omega, .inr (sp.mono (by omega)), rfl⟩
          · walk_at "gr"
            refine rc_isiD (.v hr.p) (isK_list hr.p) ?_
            rw [nl]
            walk_at "gr"
            exact ⟨_, _, N, by omega, .inr (.inr ⟨hr, nl, w12.mono (by omega)⟩), rfl⟩
        rintro _ S12 ⟨d, x8, N, hN, hz, rfl⟩
        rw [rngD_len] at hN hz
        have hN4 : N ≤ 400 := by
          have : t.toNat = 0 ∨ t.toNat = 1 ∨ t.toNat = 2 := by omega
          rcases this with z | z | z <;> rw [z] at hN <;> omega
        refine vx_nmq (ρ := fun d => [some (.rol (ns.map .int)), some (.int (i0 : Nat)), some (.ref p), some (.lst (rs.map rwD)), some (.ref h), some (.lst ((ps.map Pc.nm).map D.str)), some d, some e, x8, x9, x10, x11]) (fun _ _ => rfl) (fun _ => rfl) hz hN4 fun d S13 w13 => ?_
        clear hz w11
        walk_at "gr"
        refine right_ok hps ho w13 fun S14 w14 => ?_
        clear w13
        walk_at "gr"
        refine right_sd hps ho w14 fun S15 w15 => ?_
        clear w14
        walk_at "gr"
        refine ve_lst ?_
        walk_at "gr"
        refine rv_repc (ds := [.str "a"]) .v (by decide) (by decide) (by have := szl; show 1 * 96 ≤ _; omega) fun a ha => ?_
        have w16 := w15.new (d := .lst (List.replicate 96 [D.str "a"]).flatten) ha
        have b16 : namB (ps.map Pc.nm) 0 (List.replicate 96 [D.str "a"]).flatten = false := by
          cases z : namB (ps.map Pc.nm) 0 (List.replicate 96 [D.str "a"]).flatten with
          | false => rfl
          | true =>
            obtain ⟨zs, e2, so2⟩ := good_of z
            have l1 := so2.len hps.l
            have l2 := congrArg List.length e2
            rw [List.length_map, List.length_map] at l2
            have l3 : (List.replicate 96 [D.str "a"]).flatten.length = 96 := rfl
            omega
        have a16 : ∀ y ∈ (List.replicate 96 [D.str "a"]).flatten, Nm1 y := fun y hy => by
          obtain ⟨zs, hz, hy⟩ := List.mem_flatten.mp hy
          rw [(List.mem_replicate.mp hz).2] at hy
          rw [List.mem_singleton.mp hy]
          exact .inl ⟨_, rfl, Asc.lit (by decide)⟩
        walk_at "gr"
        refine right_ok hps ho (.inr (.inr ⟨a, _, rfl, w16, b16, by show 96 ≤ 400; decide, a16⟩)) fun S17 w17 => ?_
        clear w15 w16
        walk_at "gr"
        obtain ⟨u1, eu1, su1⟩ := cut_strs (ps.map Pc.nm) (some 1) none
        obtain ⟨u2, eu2, su2⟩ := cut_strs (ps.map Pc.nm) none (some 1)
        have all : ∀ x ∈ ([.lst (u1.map D.str), .lst ((ps.map Pc.nm).map D.str), .lst ((ps.map Pc.nm).reverse.map D.str), .lst (u2.map D.str), .lst ((ps.map Pc.nm).map D.str)] : List D), ∃ us : List Str, x = .lst (us.map D.str) ∧ (∀ z ∈ us, z ∈ ps.map Pc.nm) ∧ us.Nodup :=
          ac ⟨u1, rfl, fun _ h => su1.subset h, hps.n.sublist su1⟩ (ac ⟨_, rfl, fun _ h => h, hps.n⟩ (ac ⟨_, rfl, fun _ h => List.mem_reverse.mp h, (List.reverse_perm _).nodup_iff.mpr hps.n⟩ (ac ⟨u2, rfl, fun _ h => su2.subset h, hps.n.sublist su2⟩ (ac ⟨_, rfl, fun _ h => h, hps.n⟩ an))))
        refine vx_for (vi_list ?_)
        refine ve_lst ?_
        walk_at "gr"
        refine rs_list .v ?_
        rw [eu1]
        walk_at "gr"
        refine ve_revL ?_
        walk_at "gr"
        refine ⟨_, .v, ?_⟩
        walk_at "gr"
        refine rs_list .v ?_
        rw [eu2, ← List.map_reverse]
        walk_at "gr"
        refine ⟨_, .v, fun i ρ2 S18 => Wd S18 p 1800 [(h, hpD C_Heap k), (k, .lst (ps.map (Pc.d C_Parcel C_Sides)))] ∧ ∃ x9, ρ2 = [some (.rol (ns.map .int)), some (.int (i0 : Nat)), some (.ref p), some (.lst (rs.map rwD)), some (.ref h), some (.lst ((ps.map Pc.nm).map D.str)), some d, some e, x8, x9, x10, x11], ⟨w17.mono (by omega), _, rfl⟩, ?_, ?_⟩
        · rintro i dz _ S18 hd ⟨w18, x9, rfl⟩
          obtain ⟨us, rfl, um, un⟩ := all dz (List.mem_of_getElem? hd)
          obtain ⟨zs, rfl, sz⟩ := some_of um un
          walk_at "gr"
          refine rc_list (.l .v) ?_
          walk_at "gr"
          refine right_ok hps ho (.inl ⟨zs, SqD.lst _, sz, w18⟩) fun S19 w19 => ?_
          clear w18
          walk_at "gr"
          refine right_ok hps ho (.inl ⟨zs, SqD.tup _, sz, w19⟩) fun S20 w20 => ?_
          clear w19
          walk_at "gr"
          refine ve_lst ?_
          walk_at "gr"
          refine ⟨fun en => ?_, fun _ => ?_⟩
          · have zne : zs.map Pc.nm ≠ [] := fun z => by
              rw [z] at en
              cases en
            walk_at "gr"
            refine ⟨h, k, ps, rs, zs.map Pc.nm, rfl, w20.hp 0 1 rfl rfl, hps, hrs, pmn, um, un, zne, fun S21 x21 => ?_⟩
            walk_at "gr"
            exact ⟨w20.ext x21, _, rfl⟩
          · walk_at "gr"
            exact ⟨w20, _, rfl⟩
        rintro _ S18 ⟨w18, x9, rfl⟩
        clear w17
        refine vx_if ?_
        walk_at "gr"
        refine ve_lst ?_
        walk_at "gr"
        refine ⟨fun en => ?_, fun _ => ?_⟩
        · have pne : ps.map Pc.nm ≠ [] := fun z => by
            rw [z] at en
            cases en
          have plen : 0 < (ps.map Pc.nm).length := List.length_pos_iff.mpr pne
          have p12 := hps.nmlen
          walk_at "gr"
          refine take_w w18 (by decide) (by rw [List.length_map]; omega) (by rw [List.length_map]; omega) fun u S19 u0 u1 w19 => ?_
          clear w18
          refine rv_ixAll (fun d => ∃ (i : Nat) (q : Pc), ps[i]? = some q ∧ d = .str q.nm) u0 u1 (fun d hd => ?_) ?_
          · obtain ⟨z, hz, rfl⟩ := List.mem_map.mp hd
            obtain ⟨q, hq, rfl⟩ := List.mem_map.mp hz
            obtain ⟨i, hi⟩ := List.getElem?_of_mem hq
            exact ⟨i, q, hi, rfl⟩
          rintro _ ⟨i, g, hi, rfl⟩
          have c19 : S19 h = some (.ins C_Heap [("held", .ref k)]) := w19.g0
          walk_at "gr"
          refine ⟨h, k, ps, i, g, rfl, w19.hp 0 1 rfl rfl, hps.l, Hps.frs hps.n hi, ?_⟩
          have w20 := w19.wr (d' := .lst ((ps.eraseIdx i).map (Pc.d C_Parcel C_Sides))) 1 rfl
          change Wd _ _ _ [(h, hpD C_Heap k), (k, .lst ((ps.eraseIdx i).map (Pc.d C_Parcel C_Sides)))] at w20
          generalize VS.put S19 k (.lst ((ps.eraseIdx i).map (Pc.d C_Parcel C_Sides))) = S20 at w20 ⊢
          clear w19 c19
          have hp2 := hps.erase i
          have gg := hps.g g (List.mem_of_getElem? hi)
          have li : i < ps.length := (List.getElem?_eq_some_iff.mp hi).1
          have l2 : (ps.eraseIdx i).length < 12 := by
            have := hps.l
            rw [List.length_eraseIdx_of_lt li]
            omega
          walk_at "gr"
          refine .inr ⟨p, _, _, _, rfl, .v, w20.pu, by decide, by rw [List.length_map]; omega, fun a us S21 pm na npa ha h21 o21 => ?_⟩
          obtain ⟨vs, rfl, pv⟩ := perm_strs pm
          have w21 := w20.new1 na h21 o21 ha
          clear w20 h21 o21 ha
          obtain ⟨gn, gb⟩ := gone_bad hps hi pv
          have va : ∀ y ∈ vs.map D.str, Nm1 y := fun y hy => by
            obtain ⟨z, hz, rfl⟩ := List.mem_map.mp hy
            exact .inl ⟨_, rfl, aks _ (pv.mem_iff.mp hz)⟩
          walk_at "gr"
          refine right_ok hp2 ho (.inr (.inr ⟨a, _, rfl, w21, gb, by rw [List.length_map, pv.length_eq]; omega, va⟩)) fun S22 w22 => ?_
          clear w21
          have c22 : S22 h = some (.ins C_Heap [("held", .ref k)]) := w22.g0
          walk_at "gr"
          refine ve_mt (dds := [.non]) (XOk.none (E := noE)) (fun _ _ => .cons .non .nil) ?_
          walk_at "gr"
          refine put_end ⟨h, k, ps.eraseIdx i, g, rfl, w22.hp 0 1 rfl rfl, l2, gn, ?_⟩
          have hp3 : Hps (ps.eraseIdx i ++ [g]) := Hps.app hp2 gg l2 gn
          have w23 := w22.wr (d' := .lst ((ps.eraseIdx i ++ [g]).map (Pc.d C_Parcel C_Sides))) 1 rfl
          change Wd _ _ _ [(h, hpD C_Heap k), (k, .lst ((ps.eraseIdx i ++ [g]).map (Pc.d C_Parcel C_Sides)))] at w23
          generalize VS.put S22 k (.lst ((ps.eraseIdx i ++ [g]).map (Pc.d C_Parcel C_Sides))) = S23 at w23 ⊢
          clear w22 c22
          walk_at "gr"
          refine .inl ⟨p, _, _, _, rfl, .v, w23.pu, by decide, by rw [List.length_map]; omega, fun us S24 pm2 h24 o24 => ?_⟩
          obtain ⟨vs2, rfl, pv2⟩ := perm_strs pm2
          have w24 := w23.ex1 h24 o24
          clear w23 h24 o24
          have pm3 : ps.Perm (ps.eraseIdx i ++ [g]) := by
            have eq : ps[i] = g := (List.getElem?_eq_some_iff.mp hi).2
            have := erase_perm li
            rw [eq] at this
            exact this.trans (List.perm_append_singleton ..).symm
          obtain ⟨zs2, rfl, sz2⟩ := some_of (ps := ps.eraseIdx i ++ [g]) (fun z hz => (pm3.map Pc.nm).mem_iff.mp (pv2.mem_iff.mp hz)) (pv2.nodup_iff.mpr hps.n)
          walk_at "gr"
          refine right_ok hp3 ho (.inl ⟨zs2, SqD.lst _, sz2, w24⟩) fun S25 w25 => ?_
          walk_at "gr"
          exact ⟨_, _, _, _, _, _, _, _, _, _, _, rfl⟩
        · walk_at "gr"
          exact ⟨_, _, _, _, _, _, _, _, _, _, _, rfl⟩
      · rintro ρ2 S2 ⟨x1, x2, x3, x4, x5, x6, x7, x8, x9, x10, x11, rfl⟩
        walk_at "gr"
        exact q _) only [↓VS.box]
end
end LW
namespace LW
open PySem L2 C8 PySem.Spec PyProof.Rows
theorem fd_mk {K : PySem.W.Frag} {x qual : Str} {st : Stmt} {f : Addr} {od an : Option Addr} {sl : Array (Option Value)} {oc kV dc pm cd ct : Value}
    (l : K.lookup f = some ⟨oc, od, .func (PySem.W.fnOf x qual (defArgs st) (defBody st) (defScope st) .none kV dc pm an cd ct), sl⟩) (c : PySem.W.codeIn K cd qual = true) (k : PySem.W.keepIn K (.ref f) = true) : VS.Fd K x qual st [] f (PySem.W.fnOf x qual (defArgs st) (defBody st) (defScope st) .none kV dc pm an cd ct) :=
  ⟨⟨oc, od, .none, kV, dc, pm, an, cd, ct, sl, rfl, l, c, .inl ⟨rfl, rfl⟩, .inl rfl⟩, k⟩
theorem fd_mkD {K : PySem.W.Frag} {x qual : Str} {st : Stmt} {dvs : List V} {its : Array Value} {f T : Addr} {od an dd : Option Addr} {sl ds : Array (Option Value)} {oc kV dc pm cd ct dc2 : Value} {dn : Nat}
    (l : K.lookup f = some ⟨oc, od, .func (PySem.W.fnOf x qual (defArgs st) (defBody st) (defScope st) (.ref T) kV dc pm an cd ct), sl⟩) (c : PySem.W.codeIn K cd qual = true) (k : PySem.W.keepIn K (.ref f) = true) (hd : dvs ≠ [])
    (lT : K.lookup T = some ⟨dc2, dd, .seq its dn, ds⟩) (v : Vals dvs its.toList) : VS.Fd K x qual st dvs f (PySem.W.fnOf x qual (defArgs st) (defBody st) (defScope st) (.ref T) kV dc pm an cd ct) :=
  ⟨⟨oc, od, .ref T, kV, dc, pm, an, cd, ct, sl, rfl, l, c, .inr ⟨hd, T, _, its.toList, dn, rfl, lT, by simp, v⟩, .inl rfl⟩, k⟩
theorem all_mk {l : PySem.W.OpenLaw} {w : World} {K : PySem.W.Frag} {h : Heap} {mg : Str → Option Value} {fa C_Sides C_Parcel C_Heap C_NoSide C_NoNames BNoSide_0 fXNoSide BNoNames_0 fXNoNames f0 f1 f2 f3 f4 f5 f6 T6 f7 f8 f9 f10 f11 f12 f13 f14 f15 T15 f16 f17 f18 f19 f20 f21 f22 f23 f24 f25 f26 f27 f28 f29 f30 f31 f32 f33 f34 f35 f36 f37 f38 f39 f40 f41 f42 f43 f44 : Addr} (X : K.In h) (G : h.Ns mainGlobals mg) (hfa : mg "law" = some (.ref fa))
    (aKSides : PySem.W.nsIn K mainGlobals "Sides" = some (some (.ref C_Sides)))
    (pgKSides : PySem.W.plainGet K C_Sides Str.empty = true)
    (hdKSides : PySem.W.hasDictIn K C_Sides = true)
    (poKSides : PySem.W.plainOver K C_Sides = true)
    (saKSides : PySem.W.findIn K (.ref C_Sides) "__setattr__" = some (some (.builtin "object.__setattr__")))
    (haKSides : PySem.W.findIn K (.ref C_Sides) "__class__" = some (some (.builtin "object.__class__")))
    (hmKSides : PySem.W.mroIn K C_Sides (.type "object") = some true)
    (icKSides : PySem.W.isClsIn K C_Sides = true)
    (tcKSides : PySem.W.typeIn K (.ref C_Sides) = some (.type "type"))
    (nKSides_three : PySem.W.findIn K (.ref C_Sides) "three" = some none)
    (zKSides_int : PySem.W.subIn K (.type "int") (.ref C_Sides) = some false)
    (zKSides_bool : PySem.W.subIn K (.type "bool") (.ref C_Sides) = some false)
    (zKSides_str : PySem.W.subIn K (.type "str") (.ref C_Sides) = some false)
    (zKSides_NoneType : PySem.W.subIn K (.type "NoneType") (.ref C_Sides) = some false)
    (zKSides_list : PySem.W.subIn K (.type "list") (.ref C_Sides) = some false)
    (zKSides_tuple : PySem.W.subIn K (.type "tuple") (.ref C_Sides) = some false)
    (zKSides_dict : PySem.W.subIn K (.type "dict") (.ref C_Sides) = some false)
    (mKSides_0 : PySem.W.subIn K (.ref C_Sides) (.type "list") = some false)
    (mKSides_1 : PySem.W.subIn K (.ref C_Sides) (.type "tuple") = some false)
    (aKParcel : PySem.W.nsIn K mainGlobals "Parcel" = some (some (.ref C_Parcel)))
    (pgKParcel : PySem.W.plainGet K C_Parcel Str.empty = true)
    (hdKParcel : PySem.W.hasDictIn K C_Parcel = true)
    (poKParcel : PySem.W.plainOver K C_Parcel = true)
    (saKParcel : PySem.W.findIn K (.ref C_Parcel) "__setattr__" = some (some (.builtin "object.__setattr__")))
    (haKParcel : PySem.W.findIn K (.ref C_Parcel) "__class__" = some (some (.builtin "object.__class__")))
    (hmKParcel : PySem.W.mroIn K C_Parcel (.type "object") = some true)
    (icKParcel : PySem.W.isClsIn K C_Parcel = true)
    (tcKParcel : PySem.W.typeIn K (.ref C_Parcel) = some (.type "type"))
    (nKParcel_called : PySem.W.findIn K (.ref C_Parcel) "called" = some none)
    (nKParcel_outside : PySem.W.findIn K (.ref C_Parcel) "outside" = some none)
    (nKParcel_thick : PySem.W.findIn K (.ref C_Parcel) "thick" = some none)
    (nKParcel_heavy : PySem.W.findIn K (.ref C_Parcel) "heavy" = some none)
    (nKParcel_strong : PySem.W.findIn K (.ref C_Parcel) "strong" = some none)
    (nKParcel_marks : PySem.W.findIn K (.ref C_Parcel) "marks" = some none)
    (nKParcel_told : PySem.W.findIn K (.ref C_Parcel) "told" = some none)
    (nKParcel_names : PySem.W.findIn K (.ref C_Parcel) "names" = some none)
    (zKParcel_int : PySem.W.subIn K (.type "int") (.ref C_Parcel) = some false)
    (zKParcel_bool : PySem.W.subIn K (.type "bool") (.ref C_Parcel) = some false)
    (zKParcel_str : PySem.W.subIn K (.type "str") (.ref C_Parcel) = some false)
    (zKParcel_NoneType : PySem.W.subIn K (.type "NoneType") (.ref C_Parcel) = some false)
    (zKParcel_list : PySem.W.subIn K (.type "list") (.ref C_Parcel) = some false)
    (zKParcel_tuple : PySem.W.subIn K (.type "tuple") (.ref C_Parcel) = some false)
    (zKParcel_dict : PySem.W.subIn K (.type "dict") (.ref C_Parcel) = some false)
    (aKHeap : PySem.W.nsIn K mainGlobals "Heap" = some (some (.ref C_Heap)))
    (pgKHeap : PySem.W.plainGet K C_Heap Str.empty = true)
    (hdKHeap : PySem.W.hasDictIn K C_Heap = true)
    (poKHeap : PySem.W.plainOver K C_Heap = true)
    (saKHeap : PySem.W.findIn K (.ref C_Heap) "__setattr__" = some (some (.builtin "object.__setattr__")))
    (haKHeap : PySem.W.findIn K (.ref C_Heap) "__class__" = some (some (.builtin "object.__class__")))
    (hmKHeap : PySem.W.mroIn K C_Heap (.type "object") = some true)
    (icKHeap : PySem.W.isClsIn K C_Heap = true)
    (tcKHeap : PySem.W.typeIn K (.ref C_Heap) = some (.type "type"))
    (nKHeap_held : PySem.W.findIn K (.ref C_Heap) "held" = some none)
    (nKHeap_told : PySem.W.findIn K (.ref C_Heap) "told" = some none)
    (nKHeap_kind : PySem.W.findIn K (.ref C_Heap) "kind" = some none)
    (hnO : PySem.W.specialIn K (.builtin "object.__class__") "__get__" = some (some (.builtin "getset_descriptor.__get__"))) (htkO : PySem.W.takesIn K (.builtin "object.__class__") = some true)
    {nmXNoSide qnXNoSide : Str} {NXNoSide : Addr} {bsXNoSide : List Value} {snXNoSide : List Str} {suXNoSide : List Value} {abXNoSide : Bool} {coXNoSide : Option Bool} {ddXNoSide : Option Addr} {k0XNoSide k1XNoSide k2XNoSide k3XNoSide k5XNoSide : Option Value}
    (aXNoSide : PySem.W.nsIn K mainGlobals "NoSide" = some (some (.ref C_NoSide)))
    (xXNoSide : K.lookup C_NoSide = some (excClassObj nmXNoSide qnXNoSide C_NoSide NXNoSide bsXNoSide [.ref BNoSide_0, .type "ValueError", .type "Exception", .type "BaseException", .type "object"] true snXNoSide suXNoSide abXNoSide coXNoSide ddXNoSide k0XNoSide k1XNoSide k2XNoSide k3XNoSide k5XNoSide "ValueError.__new__"))
    (saXNoSide : PySem.W.findIn K (.ref C_NoSide) "__setattr__" = some (some (.builtin "object.__setattr__")))
    (gaXNoSide : PySem.W.findIn K (.ref C_NoSide) "__getattribute__" = some (some (.builtin "BaseException.__getattribute__")))
    (ggXNoSide : PySem.W.findIn K (.ref C_NoSide) "__getattr__" = some none)
    (noXNoSide : PySem.W.findIn K (.ref C_NoSide) "found" = some none)
    (exXNoSide : PySem.W.subIn K (.ref C_NoSide) (.type "BaseException") = some true)
    (tyXNoSide : PySem.W.typeIn K (.ref C_NoSide) = some (.type "type"))
    (kcXNoSide : PySem.W.keepIn K (.ref C_NoSide) = true)
    (hdXNoSide : PySem.W.hasDictIn K C_NoSide = true)
    (iXNoSide : PySem.W.findIn K (.ref C_NoSide) "__init__" = some (some (.ref fXNoSide))) (tXNoSide : PySem.W.typeIn K (.ref fXNoSide) = some (.type "function"))
    {odXNoSide anXNoSide : Option Addr} {slXNoSide : Array (Option Value)} {ocXNoSide kVXNoSide dcXNoSide pmXNoSide cdXNoSide ctXNoSide : Value}
    (lXNoSide : K.lookup fXNoSide = some ⟨ocXNoSide, odXNoSide, .func (PySem.W.fnOf "__init__" "NoSide.__init__" (defArgs s_NoSide___init__) (defBody s_NoSide___init__) (defScope s_NoSide___init__) .none kVXNoSide dcXNoSide pmXNoSide anXNoSide cdXNoSide ctXNoSide), slXNoSide⟩) (cXNoSide : PySem.W.codeIn K cdXNoSide "NoSide.__init__" = true) (kXNoSide : PySem.W.keepIn K (.ref fXNoSide) = true)
    {nmXNoNames qnXNoNames : Str} {NXNoNames : Addr} {bsXNoNames : List Value} {snXNoNames : List Str} {suXNoNames : List Value} {abXNoNames : Bool} {coXNoNames : Option Bool} {ddXNoNames : Option Addr} {k0XNoNames k1XNoNames k2XNoNames k3XNoNames k5XNoNames : Option Value}
    (aXNoNames : PySem.W.nsIn K mainGlobals "NoNames" = some (some (.ref C_NoNames)))
    (xXNoNames : K.lookup C_NoNames = some (excClassObj nmXNoNames qnXNoNames C_NoNames NXNoNames bsXNoNames [.ref BNoNames_0, .type "ValueError", .type "Exception", .type "BaseException", .type "object"] true snXNoNames suXNoNames abXNoNames coXNoNames ddXNoNames k0XNoNames k1XNoNames k2XNoNames k3XNoNames k5XNoNames "ValueError.__new__"))
    (saXNoNames : PySem.W.findIn K (.ref C_NoNames) "__setattr__" = some (some (.builtin "object.__setattr__")))
    (gaXNoNames : PySem.W.findIn K (.ref C_NoNames) "__getattribute__" = some (some (.builtin "BaseException.__getattribute__")))
    (ggXNoNames : PySem.W.findIn K (.ref C_NoNames) "__getattr__" = some none)
    (noXNoNames : PySem.W.findIn K (.ref C_NoNames) "found" = some none)
    (exXNoNames : PySem.W.subIn K (.ref C_NoNames) (.type "BaseException") = some true)
    (tyXNoNames : PySem.W.typeIn K (.ref C_NoNames) = some (.type "type"))
    (kcXNoNames : PySem.W.keepIn K (.ref C_NoNames) = true)
    (hdXNoNames : PySem.W.hasDictIn K C_NoNames = true)
    (iXNoNames : PySem.W.findIn K (.ref C_NoNames) "__init__" = some (some (.ref fXNoNames))) (tXNoNames : PySem.W.typeIn K (.ref fXNoNames) = some (.type "function"))
    {odXNoNames anXNoNames : Option Addr} {slXNoNames : Array (Option Value)} {ocXNoNames kVXNoNames dcXNoNames pmXNoNames cdXNoNames ctXNoNames : Value}
    (lXNoNames : K.lookup fXNoNames = some ⟨ocXNoNames, odXNoNames, .func (PySem.W.fnOf "__init__" "NoNames.__init__" (defArgs s_NoNames___init__) (defBody s_NoNames___init__) (defScope s_NoNames___init__) .none kVXNoNames dcXNoNames pmXNoNames anXNoNames cdXNoNames ctXNoNames), slXNoNames⟩) (cXNoNames : PySem.W.codeIn K cdXNoNames "NoNames.__init__" = true) (kXNoNames : PySem.W.keepIn K (.ref fXNoNames) = true)
    (a0 : PySem.W.nsIn K mainGlobals "is_whole" = some (some (.ref f0)))
    {od0 an0 : Option Addr} {sl0 : Array (Option Value)} {oc0 kV0 dc0 pm0 cd0 ct0 : Value}
    (l0 : K.lookup f0 = some ⟨oc0, od0, .func (PySem.W.fnOf "is_whole" "is_whole" (defArgs s_is_whole) (defBody s_is_whole) (defScope s_is_whole) .none kV0 dc0 pm0 an0 cd0 ct0), sl0⟩) (c0 : PySem.W.codeIn K cd0 "is_whole" = true) (k0 : PySem.W.keepIn K (.ref f0) = true)
    (a1 : PySem.W.nsIn K mainGlobals "is_name" = some (some (.ref f1)))
    {od1 an1 : Option Addr} {sl1 : Array (Option Value)} {oc1 kV1 dc1 pm1 cd1 ct1 : Value}
    (l1 : K.lookup f1 = some ⟨oc1, od1, .func (PySem.W.fnOf "is_name" "is_name" (defArgs s_is_name) (defBody s_is_name) (defScope s_is_name) .none kV1 dc1 pm1 an1 cd1 ct1), sl1⟩) (c1 : PySem.W.codeIn K cd1 "is_name" = true) (k1 : PySem.W.keepIn K (.ref f1) = true)
    (a2 : PySem.W.findIn K (.ref C_Sides) "__init__" = some (some (.ref f2))) (i2 : PySem.W.isFn K (.ref f2) = true)
    {od2 an2 : Option Addr} {sl2 : Array (Option Value)} {oc2 kV2 dc2 pm2 cd2 ct2 : Value}
    (l2 : K.lookup f2 = some ⟨oc2, od2, .func (PySem.W.fnOf "__init__" "Sides.__init__" (defArgs s_Sides___init__) (defBody s_Sides___init__) (defScope s_Sides___init__) .none kV2 dc2 pm2 an2 cd2 ct2), sl2⟩) (c2 : PySem.W.codeIn K cd2 "Sides.__init__" = true) (k2 : PySem.W.keepIn K (.ref f2) = true)
    (mk2 : PySem.W.makesIn K C_Sides = true) (kc2 : PySem.W.keepIn K (.ref C_Sides) = true)
    (a3 : PySem.W.findIn K (.ref C_Sides) "told" = some (some (.ref f3))) (i3 : PySem.W.isFn K (.ref f3) = true)
    {od3 an3 : Option Addr} {sl3 : Array (Option Value)} {oc3 kV3 dc3 pm3 cd3 ct3 : Value}
    (l3 : K.lookup f3 = some ⟨oc3, od3, .func (PySem.W.fnOf "told" "Sides.told" (defArgs s_Sides_told) (defBody s_Sides_told) (defScope s_Sides_told) .none kV3 dc3 pm3 an3 cd3 ct3), sl3⟩) (c3 : PySem.W.codeIn K cd3 "Sides.told" = true) (k3 : PySem.W.keepIn K (.ref f3) = true)
    (a4 : PySem.W.findIn K (.ref C_Sides) "__repr__" = some (some (.ref f4))) (i4 : PySem.W.isFn K (.ref f4) = true)
    {od4 an4 : Option Addr} {sl4 : Array (Option Value)} {oc4 kV4 dc4 pm4 cd4 ct4 : Value}
    (l4 : K.lookup f4 = some ⟨oc4, od4, .func (PySem.W.fnOf "__repr__" "Sides.__repr__" (defArgs s_Sides___repr__) (defBody s_Sides___repr__) (defScope s_Sides___repr__) .none kV4 dc4 pm4 an4 cd4 ct4), sl4⟩) (c4 : PySem.W.codeIn K cd4 "Sides.__repr__" = true) (k4 : PySem.W.keepIn K (.ref f4) = true)
    (a5 : PySem.W.nsIn K mainGlobals "are_labels" = some (some (.ref f5)))
    {od5 an5 : Option Addr} {sl5 : Array (Option Value)} {oc5 kV5 dc5 pm5 cd5 ct5 : Value}
    (l5 : K.lookup f5 = some ⟨oc5, od5, .func (PySem.W.fnOf "are_labels" "are_labels" (defArgs s_are_labels) (defBody s_are_labels) (defScope s_are_labels) .none kV5 dc5 pm5 an5 cd5 ct5), sl5⟩) (c5 : PySem.W.codeIn K cd5 "are_labels" = true) (k5 : PySem.W.keepIn K (.ref f5) = true)
    (a6 : PySem.W.findIn K (.ref C_Parcel) "__init__" = some (some (.ref f6))) (i6 : PySem.W.isFn K (.ref f6) = true)
    {od6 an6 : Option Addr} {sl6 : Array (Option Value)} {oc6 kV6 dc6 pm6 cd6 ct6 : Value}
    (l6 : K.lookup f6 = some ⟨oc6, od6, .func (PySem.W.fnOf "__init__" "Parcel.__init__" (defArgs s_Parcel___init__) (defBody s_Parcel___init__) (defScope s_Parcel___init__) (.ref T6) kV6 dc6 pm6 an6 cd6 ct6), sl6⟩) (c6 : PySem.W.codeIn K cd6 "Parcel.__init__" = true) (k6 : PySem.W.keepIn K (.ref f6) = true)
    {dt6_0 : Tok}
    {dt6_1 : Tok}
    {dt6_2 : Tok}
    {dd6 : Option Addr} {dn6 : Nat} {ds6 : Array (Option Value)} {dc26 : Value} (t6 : K.lookup T6 = some ⟨dc26, dd6, .seq #[.int 1 dt6_0, .int 0 dt6_1, .int 0 dt6_2, .none] dn6, ds6⟩)
    (mk6 : PySem.W.makesIn K C_Parcel = true) (kc6 : PySem.W.keepIn K (.ref C_Parcel) = true)
    (a7 : PySem.W.findIn K (.ref C_Parcel) "sides" = some (some (.ref f7))) (i7 : PySem.W.isFn K (.ref f7) = true)
    {od7 an7 : Option Addr} {sl7 : Array (Option Value)} {oc7 kV7 dc7 pm7 cd7 ct7 : Value}
    (l7 : K.lookup f7 = some ⟨oc7, od7, .func (PySem.W.fnOf "sides" "Parcel.sides" (defArgs s_Parcel_sides) (defBody s_Parcel_sides) (defScope s_Parcel_sides) .none kV7 dc7 pm7 an7 cd7 ct7), sl7⟩) (c7 : PySem.W.codeIn K cd7 "Parcel.sides" = true) (k7 : PySem.W.keepIn K (.ref f7) = true)
    (a8 : PySem.W.findIn K (.ref C_Parcel) "name" = some (some (.ref f8))) (i8 : PySem.W.isFn K (.ref f8) = true)
    {od8 an8 : Option Addr} {sl8 : Array (Option Value)} {oc8 kV8 dc8 pm8 cd8 ct8 : Value}
    (l8 : K.lookup f8 = some ⟨oc8, od8, .func (PySem.W.fnOf "name" "Parcel.name" (defArgs s_Parcel_name) (defBody s_Parcel_name) (defScope s_Parcel_name) .none kV8 dc8 pm8 an8 cd8 ct8), sl8⟩) (c8 : PySem.W.codeIn K cd8 "Parcel.name" = true) (k8 : PySem.W.keepIn K (.ref f8) = true)
    (a9 : PySem.W.findIn K (.ref C_Parcel) "weight" = some (some (.ref f9))) (i9 : PySem.W.isFn K (.ref f9) = true)
    {od9 an9 : Option Addr} {sl9 : Array (Option Value)} {oc9 kV9 dc9 pm9 cd9 ct9 : Value}
    (l9 : K.lookup f9 = some ⟨oc9, od9, .func (PySem.W.fnOf "weight" "Parcel.weight" (defArgs s_Parcel_weight) (defBody s_Parcel_weight) (defScope s_Parcel_weight) .none kV9 dc9 pm9 an9 cd9 ct9), sl9⟩) (c9 : PySem.W.codeIn K cd9 "Parcel.weight" = true) (k9 : PySem.W.keepIn K (.ref f9) = true)
    (a10 : PySem.W.findIn K (.ref C_Parcel) "bears" = some (some (.ref f10))) (i10 : PySem.W.isFn K (.ref f10) = true)
    {od10 an10 : Option Addr} {sl10 : Array (Option Value)} {oc10 kV10 dc10 pm10 cd10 ct10 : Value}
    (l10 : K.lookup f10 = some ⟨oc10, od10, .func (PySem.W.fnOf "bears" "Parcel.bears" (defArgs s_Parcel_bears) (defBody s_Parcel_bears) (defScope s_Parcel_bears) .none kV10 dc10 pm10 an10 cd10 ct10), sl10⟩) (c10 : PySem.W.codeIn K cd10 "Parcel.bears" = true) (k10 : PySem.W.keepIn K (.ref f10) = true)
    (a11 : PySem.W.findIn K (.ref C_Parcel) "labels" = some (some (.ref f11))) (i11 : PySem.W.isFn K (.ref f11) = true)
    {od11 an11 : Option Addr} {sl11 : Array (Option Value)} {oc11 kV11 dc11 pm11 cd11 ct11 : Value}
    (l11 : K.lookup f11 = some ⟨oc11, od11, .func (PySem.W.fnOf "labels" "Parcel.labels" (defArgs s_Parcel_labels) (defBody s_Parcel_labels) (defScope s_Parcel_labels) .none kV11 dc11 pm11 an11 cd11 ct11), sl11⟩) (c11 : PySem.W.codeIn K cd11 "Parcel.labels" = true) (k11 : PySem.W.keepIn K (.ref f11) = true)
    (a12 : PySem.W.findIn K (.ref C_Heap) "__init__" = some (some (.ref f12))) (i12 : PySem.W.isFn K (.ref f12) = true)
    {od12 an12 : Option Addr} {sl12 : Array (Option Value)} {oc12 kV12 dc12 pm12 cd12 ct12 : Value}
    (l12 : K.lookup f12 = some ⟨oc12, od12, .func (PySem.W.fnOf "__init__" "Heap.__init__" (defArgs s_Heap___init__) (defBody s_Heap___init__) (defScope s_Heap___init__) .none kV12 dc12 pm12 an12 cd12 ct12), sl12⟩) (c12 : PySem.W.codeIn K cd12 "Heap.__init__" = true) (k12 : PySem.W.keepIn K (.ref f12) = true)
    (mk12 : PySem.W.makesIn K C_Heap = true) (kc12 : PySem.W.keepIn K (.ref C_Heap) = true)
    (a13 : PySem.W.findIn K (.ref C_Heap) "names" = some (some (.ref f13))) (i13 : PySem.W.isFn K (.ref f13) = true)
    {od13 an13 : Option Addr} {sl13 : Array (Option Value)} {oc13 kV13 dc13 pm13 cd13 ct13 : Value}
    (l13 : K.lookup f13 = some ⟨oc13, od13, .func (PySem.W.fnOf "names" "Heap.names" (defArgs s_Heap_names) (defBody s_Heap_names) (defScope s_Heap_names) .none kV13 dc13 pm13 an13 cd13 ct13), sl13⟩) (c13 : PySem.W.codeIn K cd13 "Heap.names" = true) (k13 : PySem.W.keepIn K (.ref f13) = true)
    (a14 : PySem.W.findIn K (.ref C_Heap) "place_of" = some (some (.ref f14))) (i14 : PySem.W.isFn K (.ref f14) = true)
    {od14 an14 : Option Addr} {sl14 : Array (Option Value)} {oc14 kV14 dc14 pm14 cd14 ct14 : Value}
    (l14 : K.lookup f14 = some ⟨oc14, od14, .func (PySem.W.fnOf "place_of" "Heap.place_of" (defArgs s_Heap_place_of) (defBody s_Heap_place_of) (defScope s_Heap_place_of) .none kV14 dc14 pm14 an14 cd14 ct14), sl14⟩) (c14 : PySem.W.codeIn K cd14 "Heap.place_of" = true) (k14 : PySem.W.keepIn K (.ref f14) = true)
    (a15 : PySem.W.findIn K (.ref C_Heap) "put" = some (some (.ref f15))) (i15 : PySem.W.isFn K (.ref f15) = true)
    {od15 an15 : Option Addr} {sl15 : Array (Option Value)} {oc15 kV15 dc15 pm15 cd15 ct15 : Value}
    (l15 : K.lookup f15 = some ⟨oc15, od15, .func (PySem.W.fnOf "put" "Heap.put" (defArgs s_Heap_put) (defBody s_Heap_put) (defScope s_Heap_put) (.ref T15) kV15 dc15 pm15 an15 cd15 ct15), sl15⟩) (c15 : PySem.W.codeIn K cd15 "Heap.put" = true) (k15 : PySem.W.keepIn K (.ref f15) = true)
    {dd15 : Option Addr} {dn15 : Nat} {ds15 : Array (Option Value)} {dc215 : Value} (t15 : K.lookup T15 = some ⟨dc215, dd15, .seq #[.none] dn15, ds15⟩)
    (a16 : PySem.W.findIn K (.ref C_Heap) "out" = some (some (.ref f16))) (i16 : PySem.W.isFn K (.ref f16) = true)
    {od16 an16 : Option Addr} {sl16 : Array (Option Value)} {oc16 kV16 dc16 pm16 cd16 ct16 : Value}
    (l16 : K.lookup f16 = some ⟨oc16, od16, .func (PySem.W.fnOf "out" "Heap.out" (defArgs s_Heap_out) (defBody s_Heap_out) (defScope s_Heap_out) .none kV16 dc16 pm16 an16 cd16 ct16), sl16⟩) (c16 : PySem.W.codeIn K cd16 "Heap.out" = true) (k16 : PySem.W.keepIn K (.ref f16) = true)
    (a17 : PySem.W.findIn K (.ref C_Heap) "parcel" = some (some (.ref f17))) (i17 : PySem.W.isFn K (.ref f17) = true)
    {od17 an17 : Option Addr} {sl17 : Array (Option Value)} {oc17 kV17 dc17 pm17 cd17 ct17 : Value}
    (l17 : K.lookup f17 = some ⟨oc17, od17, .func (PySem.W.fnOf "parcel" "Heap.parcel" (defArgs s_Heap_parcel) (defBody s_Heap_parcel) (defScope s_Heap_parcel) .none kV17 dc17 pm17 an17 cd17 ct17), sl17⟩) (c17 : PySem.W.codeIn K cd17 "Heap.parcel" = true) (k17 : PySem.W.keepIn K (.ref f17) = true)
    (a18 : PySem.W.nsIn K mainGlobals "are_names" = some (some (.ref f18)))
    {od18 an18 : Option Addr} {sl18 : Array (Option Value)} {oc18 kV18 dc18 pm18 cd18 ct18 : Value}
    (l18 : K.lookup f18 = some ⟨oc18, od18, .func (PySem.W.fnOf "are_names" "are_names" (defArgs s_are_names) (defBody s_are_names) (defScope s_are_names) .none kV18 dc18 pm18 an18 cd18 ct18), sl18⟩) (c18 : PySem.W.codeIn K cd18 "are_names" = true) (k18 : PySem.W.keepIn K (.ref f18) = true)
    (a19 : PySem.W.nsIn K mainGlobals "need_names" = some (some (.ref f19)))
    {od19 an19 : Option Addr} {sl19 : Array (Option Value)} {oc19 kV19 dc19 pm19 cd19 ct19 : Value}
    (l19 : K.lookup f19 = some ⟨oc19, od19, .func (PySem.W.fnOf "need_names" "need_names" (defArgs s_need_names) (defBody s_need_names) (defScope s_need_names) .none kV19 dc19 pm19 an19 cd19 ct19), sl19⟩) (c19 : PySem.W.codeIn K cd19 "need_names" = true) (k19 : PySem.W.keepIn K (.ref f19) = true)
    (a20 : PySem.W.nsIn K mainGlobals "is_top" = some (some (.ref f20)))
    {od20 an20 : Option Addr} {sl20 : Array (Option Value)} {oc20 kV20 dc20 pm20 cd20 ct20 : Value}
    (l20 : K.lookup f20 = some ⟨oc20, od20, .func (PySem.W.fnOf "is_top" "is_top" (defArgs s_is_top) (defBody s_is_top) (defScope s_is_top) .none kV20 dc20 pm20 an20 cd20 ct20), sl20⟩) (c20 : PySem.W.codeIn K cd20 "is_top" = true) (k20 : PySem.W.keepIn K (.ref f20) = true)
    (a21 : PySem.W.nsIn K mainGlobals "fault_of" = some (some (.ref f21)))
    {od21 an21 : Option Addr} {sl21 : Array (Option Value)} {oc21 kV21 dc21 pm21 cd21 ct21 : Value}
    (l21 : K.lookup f21 = some ⟨oc21, od21, .func (PySem.W.fnOf "fault_of" "fault_of" (defArgs s_fault_of) (defBody s_fault_of) (defScope s_fault_of) .none kV21 dc21 pm21 an21 cd21 ct21), sl21⟩) (c21 : PySem.W.codeIn K cd21 "fault_of" = true) (k21 : PySem.W.keepIn K (.ref f21) = true)
    (a22 : PySem.W.nsIn K mainGlobals "might_of" = some (some (.ref f22)))
    {od22 an22 : Option Addr} {sl22 : Array (Option Value)} {oc22 kV22 dc22 pm22 cd22 ct22 : Value}
    (l22 : K.lookup f22 = some ⟨oc22, od22, .func (PySem.W.fnOf "might_of" "might_of" (defArgs s_might_of) (defBody s_might_of) (defScope s_might_of) .none kV22 dc22 pm22 an22 cd22 ct22), sl22⟩) (c22 : PySem.W.codeIn K cd22 "might_of" = true) (k22 : PySem.W.keepIn K (.ref f22) = true)
    (a23 : PySem.W.nsIn K mainGlobals "stack_fault" = some (some (.ref f23)))
    {od23 an23 : Option Addr} {sl23 : Array (Option Value)} {oc23 kV23 dc23 pm23 cd23 ct23 : Value}
    (l23 : K.lookup f23 = some ⟨oc23, od23, .func (PySem.W.fnOf "stack_fault" "stack_fault" (defArgs s_stack_fault) (defBody s_stack_fault) (defScope s_stack_fault) .none kV23 dc23 pm23 an23 cd23 ct23), sl23⟩) (c23 : PySem.W.codeIn K cd23 "stack_fault" = true) (k23 : PySem.W.keepIn K (.ref f23) = true)
    (a24 : PySem.W.nsIn K mainGlobals "heights" = some (some (.ref f24)))
    {od24 an24 : Option Addr} {sl24 : Array (Option Value)} {oc24 kV24 dc24 pm24 cd24 ct24 : Value}
    (l24 : K.lookup f24 = some ⟨oc24, od24, .func (PySem.W.fnOf "heights" "heights" (defArgs s_heights) (defBody s_heights) (defScope s_heights) .none kV24 dc24 pm24 an24 cd24 ct24), sl24⟩) (c24 : PySem.W.codeIn K cd24 "heights" = true) (k24 : PySem.W.keepIn K (.ref f24) = true)
    (a25 : PySem.W.nsIn K mainGlobals "stacked" = some (some (.ref f25)))
    {od25 an25 : Option Addr} {sl25 : Array (Option Value)} {oc25 kV25 dc25 pm25 cd25 ct25 : Value}
    (l25 : K.lookup f25 = some ⟨oc25, od25, .func (PySem.W.fnOf "stacked" "stacked" (defArgs s_stacked) (defBody s_stacked) (defScope s_stacked) .none kV25 dc25 pm25 an25 cd25 ct25), sl25⟩) (c25 : PySem.W.codeIn K cd25 "stacked" = true) (k25 : PySem.W.keepIn K (.ref f25) = true)
    (a26 : PySem.W.nsIn K mainGlobals "is_stack" = some (some (.ref f26)))
    {od26 an26 : Option Addr} {sl26 : Array (Option Value)} {oc26 kV26 dc26 pm26 cd26 ct26 : Value}
    (l26 : K.lookup f26 = some ⟨oc26, od26, .func (PySem.W.fnOf "is_stack" "is_stack" (defArgs s_is_stack) (defBody s_is_stack) (defScope s_is_stack) .none kV26 dc26 pm26 an26 cd26 ct26), sl26⟩) (c26 : PySem.W.codeIn K cd26 "is_stack" = true) (k26 : PySem.W.keepIn K (.ref f26) = true)
    (a27 : PySem.W.nsIn K mainGlobals "are_tops" = some (some (.ref f27)))
    {od27 an27 : Option Addr} {sl27 : Array (Option Value)} {oc27 kV27 dc27 pm27 cd27 ct27 : Value}
    (l27 : K.lookup f27 = some ⟨oc27, od27, .func (PySem.W.fnOf "are_tops" "are_tops" (defArgs s_are_tops) (defBody s_are_tops) (defScope s_are_tops) .none kV27 dc27 pm27 an27 cd27 ct27), sl27⟩) (c27 : PySem.W.codeIn K cd27 "are_tops" = true) (k27 : PySem.W.keepIn K (.ref f27) = true)
    (a28 : PySem.W.nsIn K mainGlobals "are_heavy" = some (some (.ref f28)))
    {od28 an28 : Option Addr} {sl28 : Array (Option Value)} {oc28 kV28 dc28 pm28 cd28 ct28 : Value}
    (l28 : K.lookup f28 = some ⟨oc28, od28, .func (PySem.W.fnOf "are_heavy" "are_heavy" (defArgs s_are_heavy) (defBody s_are_heavy) (defScope s_are_heavy) .none kV28 dc28 pm28 an28 cd28 ct28), sl28⟩) (c28 : PySem.W.codeIn K cd28 "are_heavy" = true) (k28 : PySem.W.keepIn K (.ref f28) = true)
    (a29 : PySem.W.nsIn K mainGlobals "shows_stacked" = some (some (.ref f29)))
    {od29 an29 : Option Addr} {sl29 : Array (Option Value)} {oc29 kV29 dc29 pm29 cd29 ct29 : Value}
    (l29 : K.lookup f29 = some ⟨oc29, od29, .func (PySem.W.fnOf "shows_stacked" "shows_stacked" (defArgs s_shows_stacked) (defBody s_shows_stacked) (defScope s_shows_stacked) .none kV29 dc29 pm29 an29 cd29 ct29), sl29⟩) (c29 : PySem.W.codeIn K cd29 "shows_stacked" = true) (k29 : PySem.W.keepIn K (.ref f29) = true)
    (a30 : PySem.W.nsIn K mainGlobals "_law_cell" = some (some (.ref f30)))
    {od30 an30 : Option Addr} {sl30 : Array (Option Value)} {oc30 kV30 dc30 pm30 cd30 ct30 : Value}
    (l30 : K.lookup f30 = some ⟨oc30, od30, .func (PySem.W.fnOf "_law_cell" "_law_cell" (defArgs s__law_cell) (defBody s__law_cell) (defScope s__law_cell) .none kV30 dc30 pm30 an30 cd30 ct30), sl30⟩) (c30 : PySem.W.codeIn K cd30 "_law_cell" = true) (k30 : PySem.W.keepIn K (.ref f30) = true)
    (a31 : PySem.W.nsIn K mainGlobals "_law_purse" = some (some (.ref f31)))
    {od31 an31 : Option Addr} {sl31 : Array (Option Value)} {oc31 kV31 dc31 pm31 cd31 ct31 : Value}
    (l31 : K.lookup f31 = some ⟨oc31, od31, .func (PySem.W.fnOf "_law_purse" "_law_purse" (defArgs s__law_purse) (defBody s__law_purse) (defScope s__law_purse) .none kV31 dc31 pm31 an31 cd31 ct31), sl31⟩) (c31 : PySem.W.codeIn K cd31 "_law_purse" = true) (k31 : PySem.W.keepIn K (.ref f31) = true)
    (a32 : PySem.W.nsIn K mainGlobals "_law_take" = some (some (.ref f32)))
    {od32 an32 : Option Addr} {sl32 : Array (Option Value)} {oc32 kV32 dc32 pm32 cd32 ct32 : Value}
    (l32 : K.lookup f32 = some ⟨oc32, od32, .func (PySem.W.fnOf "_law_take" "_law_take" (defArgs s__law_take) (defBody s__law_take) (defScope s__law_take) .none kV32 dc32 pm32 an32 cd32 ct32), sl32⟩) (c32 : PySem.W.codeIn K cd32 "_law_take" = true) (k32 : PySem.W.keepIn K (.ref f32) = true)
    (a33 : PySem.W.nsIn K mainGlobals "_law_names" = some (some (.ref f33)))
    {od33 an33 : Option Addr} {sl33 : Array (Option Value)} {oc33 kV33 dc33 pm33 cd33 ct33 : Value}
    (l33 : K.lookup f33 = some ⟨oc33, od33, .func (PySem.W.fnOf "_law_names" "_law_names" (defArgs s__law_names) (defBody s__law_names) (defScope s__law_names) .none kV33 dc33 pm33 an33 cd33 ct33), sl33⟩) (c33 : PySem.W.codeIn K cd33 "_law_names" = true) (k33 : PySem.W.keepIn K (.ref f33) = true)
    (a34 : PySem.W.nsIn K mainGlobals "_law_pile" = some (some (.ref f34)))
    {od34 an34 : Option Addr} {sl34 : Array (Option Value)} {oc34 kV34 dc34 pm34 cd34 ct34 : Value}
    (l34 : K.lookup f34 = some ⟨oc34, od34, .func (PySem.W.fnOf "_law_pile" "_law_pile" (defArgs s__law_pile) (defBody s__law_pile) (defScope s__law_pile) .none kV34 dc34 pm34 an34 cd34 ct34), sl34⟩) (c34 : PySem.W.codeIn K cd34 "_law_pile" = true) (k34 : PySem.W.keepIn K (.ref f34) = true)
    (a35 : PySem.W.nsIn K mainGlobals "_law_shuffled" = some (some (.ref f35)))
    {od35 an35 : Option Addr} {sl35 : Array (Option Value)} {oc35 kV35 dc35 pm35 cd35 ct35 : Value}
    (l35 : K.lookup f35 = some ⟨oc35, od35, .func (PySem.W.fnOf "_law_shuffled" "_law_shuffled" (defArgs s__law_shuffled) (defBody s__law_shuffled) (defScope s__law_shuffled) .none kV35 dc35 pm35 an35 cd35 ct35), sl35⟩) (c35 : PySem.W.codeIn K cd35 "_law_shuffled" = true) (k35 : PySem.W.keepIn K (.ref f35) = true)
    (a36 : PySem.W.nsIn K mainGlobals "_law_some" = some (some (.ref f36)))
    {od36 an36 : Option Addr} {sl36 : Array (Option Value)} {oc36 kV36 dc36 pm36 cd36 ct36 : Value}
    (l36 : K.lookup f36 = some ⟨oc36, od36, .func (PySem.W.fnOf "_law_some" "_law_some" (defArgs s__law_some) (defBody s__law_some) (defScope s__law_some) .none kV36 dc36 pm36 an36 cd36 ct36), sl36⟩) (c36 : PySem.W.codeIn K cd36 "_law_some" = true) (k36 : PySem.W.keepIn K (.ref f36) = true)
    (a37 : PySem.W.nsIn K mainGlobals "_law_heap" = some (some (.ref f37)))
    {od37 an37 : Option Addr} {sl37 : Array (Option Value)} {oc37 kV37 dc37 pm37 cd37 ct37 : Value}
    (l37 : K.lookup f37 = some ⟨oc37, od37, .func (PySem.W.fnOf "_law_heap" "_law_heap" (defArgs s__law_heap) (defBody s__law_heap) (defScope s__law_heap) .none kV37 dc37 pm37 an37 cd37 ct37), sl37⟩) (c37 : PySem.W.codeIn K cd37 "_law_heap" = true) (k37 : PySem.W.keepIn K (.ref f37) = true)
    (a38 : PySem.W.nsIn K mainGlobals "_law_spoilt_names" = some (some (.ref f38)))
    {od38 an38 : Option Addr} {sl38 : Array (Option Value)} {oc38 kV38 dc38 pm38 cd38 ct38 : Value}
    (l38 : K.lookup f38 = some ⟨oc38, od38, .func (PySem.W.fnOf "_law_spoilt_names" "_law_spoilt_names" (defArgs s__law_spoilt_names) (defBody s__law_spoilt_names) (defScope s__law_spoilt_names) .none kV38 dc38 pm38 an38 cd38 ct38), sl38⟩) (c38 : PySem.W.codeIn K cd38 "_law_spoilt_names" = true) (k38 : PySem.W.keepIn K (.ref f38) = true)
    (a39 : PySem.W.nsIn K mainGlobals "_law_good" = some (some (.ref f39)))
    {od39 an39 : Option Addr} {sl39 : Array (Option Value)} {oc39 kV39 dc39 pm39 cd39 ct39 : Value}
    (l39 : K.lookup f39 = some ⟨oc39, od39, .func (PySem.W.fnOf "_law_good" "_law_good" (defArgs s__law_good) (defBody s__law_good) (defScope s__law_good) .none kV39 dc39 pm39 an39 cd39 ct39), sl39⟩) (c39 : PySem.W.codeIn K cd39 "_law_good" = true) (k39 : PySem.W.keepIn K (.ref f39) = true)
    (a40 : PySem.W.nsIn K mainGlobals "_law_look" = some (some (.ref f40)))
    {od40 an40 : Option Addr} {sl40 : Array (Option Value)} {oc40 kV40 dc40 pm40 cd40 ct40 : Value}
    (l40 : K.lookup f40 = some ⟨oc40, od40, .func (PySem.W.fnOf "_law_look" "_law_look" (defArgs s__law_look) (defBody s__law_look) (defScope s__law_look) .none kV40 dc40 pm40 an40 cd40 ct40), sl40⟩) (c40 : PySem.W.codeIn K cd40 "_law_look" = true) (k40 : PySem.W.keepIn K (.ref f40) = true)
    (a41 : PySem.W.nsIn K mainGlobals "_law_asked" = some (some (.ref f41)))
    {od41 an41 : Option Addr} {sl41 : Array (Option Value)} {oc41 kV41 dc41 pm41 cd41 ct41 : Value}
    (l41 : K.lookup f41 = some ⟨oc41, od41, .func (PySem.W.fnOf "_law_asked" "_law_asked" (defArgs s__law_asked) (defBody s__law_asked) (defScope s__law_asked) .none kV41 dc41 pm41 an41 cd41 ct41), sl41⟩) (c41 : PySem.W.codeIn K cd41 "_law_asked" = true) (k41 : PySem.W.keepIn K (.ref f41) = true)
    (a42 : PySem.W.nsIn K mainGlobals "_law_right" = some (some (.ref f42)))
    {od42 an42 : Option Addr} {sl42 : Array (Option Value)} {oc42 kV42 dc42 pm42 cd42 ct42 : Value}
    (l42 : K.lookup f42 = some ⟨oc42, od42, .func (PySem.W.fnOf "_law_right" "_law_right" (defArgs s__law_right) (defBody s__law_right) (defScope s__law_right) .none kV42 dc42 pm42 an42 cd42 ct42), sl42⟩) (c42 : PySem.W.codeIn K cd42 "_law_right" = true) (k42 : PySem.W.keepIn K (.ref f42) = true)
    (a43 : PySem.W.nsIn K mainGlobals "_law_told_right" = some (some (.ref f43)))
    {od43 an43 : Option Addr} {sl43 : Array (Option Value)} {oc43 kV43 dc43 pm43 cd43 ct43 : Value}
    (l43 : K.lookup f43 = some ⟨oc43, od43, .func (PySem.W.fnOf "_law_told_right" "_law_told_right" (defArgs s__law_told_right) (defBody s__law_told_right) (defScope s__law_told_right) .none kV43 dc43 pm43 an43 cd43 ct43), sl43⟩) (c43 : PySem.W.codeIn K cd43 "_law_told_right" = true) (k43 : PySem.W.keepIn K (.ref f43) = true)
    (a44 : PySem.W.nsIn K mainGlobals "law" = some (some (.ref f44)))
    {od44 an44 : Option Addr} {sl44 : Array (Option Value)} {oc44 kV44 dc44 pm44 cd44 ct44 : Value}
    (l44 : K.lookup f44 = some ⟨oc44, od44, .func (PySem.W.fnOf "law" "law" (defArgs s_law) (defBody s_law) (defScope s_law) .none kV44 dc44 pm44 an44 cd44 ct44), sl44⟩) (c44 : PySem.W.codeIn K cd44 "law" = true) (k44 : PySem.W.keepIn K (.ref f44) = true)
    (z_all : PySem.W.nsIn K mainGlobals "all" = some none)
    (z_bool : PySem.W.nsIn K mainGlobals "bool" = some none)
    (z_enumerate : PySem.W.nsIn K mainGlobals "enumerate" = some none)
    (z_int : PySem.W.nsIn K mainGlobals "int" = some none)
    (z_isinstance : PySem.W.nsIn K mainGlobals "isinstance" = some none)
    (z_len : PySem.W.nsIn K mainGlobals "len" = some none)
    (z_list : PySem.W.nsIn K mainGlobals "list" = some none)
    (z_max : PySem.W.nsIn K mainGlobals "max" = some none)
    (z_min : PySem.W.nsIn K mainGlobals "min" = some none)
    (z_range : PySem.W.nsIn K mainGlobals "range" = some none)
    (z_repr : PySem.W.nsIn K mainGlobals "repr" = some none)
    (z_set : PySem.W.nsIn K mainGlobals "set" = some none)
    (z_sorted : PySem.W.nsIn K mainGlobals "sorted" = some none)
    (z_str : PySem.W.nsIn K mainGlobals "str" = some none)
    (z_sum : PySem.W.nsIn K mainGlobals "sum" = some none)
    (z_tuple : PySem.W.nsIn K mainGlobals "tuple" = some none)
    {t_LETTERS : Tok} (z_LETTERS : PySem.W.nsIn K mainGlobals "LETTERS" = some (some (.str "abcdefghijklmnopqrstuvwxyz" t_LETTERS)))
    {t_MOST_PARCELS : Tok} (z_MOST_PARCELS : PySem.W.nsIn K mainGlobals "MOST_PARCELS" = some (some (.int 12 t_MOST_PARCELS)))
    {t_MOST_SIDE : Tok} (z_MOST_SIDE : PySem.W.nsIn K mainGlobals "MOST_SIDE" = some (some (.int 100000 t_MOST_SIDE)))
    {t_MOST_WALL : Tok} (z_MOST_WALL : PySem.W.nsIn K mainGlobals "MOST_WALL" = some (some (.int 1000 t_MOST_WALL)))
    {t_MOST_WEIGHT : Tok} (z_MOST_WEIGHT : PySem.W.nsIn K mainGlobals "MOST_WEIGHT" = some (some (.int 100000 t_MOST_WEIGHT)))
    (icNoNames : PySem.W.isClsIn K C_NoNames = true)
    (sbNoNames_NoNames : PySem.W.subIn K (.ref C_NoNames) (.ref C_NoNames) = some true)
    {aDSHOWN : Addr} {nDSHOWN : Nat} {tDSHOWN_0 tDSHOWN_1 tDSHOWN_2 : Tok}
    (zDSHOWN : PySem.W.nsIn K mainGlobals "SHOWN" = some (some (.ref aDSHOWN)))
    (kDSHOWN : K.lookup aDSHOWN = some ⟨.type "dict", none, .dict #[⟨hashStr w "stack", .str "stack" tDSHOWN_0, .ref f26⟩, ⟨hashStr w "tops", .str "tops" tDSHOWN_1, .ref f27⟩, ⟨hashStr w "heavy", .str "heavy" tDSHOWN_2, .ref f28⟩] nDSHOWN, #[]⟩) (sDSHOWN : (aDSHOWN == sysModules) = false)
    {aO t0_ t1_ t2_ t3_ t4_ t5_ : Addr} {dO : Option Addr} {nO : Nat} {sO : Array (Option Value)} (z_ORDERS : PySem.W.nsIn K mainGlobals "ORDERS" = some (some (.ref aO)))
    (kO : K.lookup aO = some ⟨.type "tuple", dO, .seq #[.ref t0_, .ref t1_, .ref t2_, .ref t3_, .ref t4_, .ref t5_] nO, sO⟩)
    {e0_ : Option Addr} {m0_ : Nat} {r0_ : Array (Option Value)} {x0_ y0_ w0_ : Tok} (kt0_ : K.lookup t0_ = some ⟨.type "tuple", e0_, .seq #[.int 0 x0_, .int 1 y0_, .int 2 w0_] m0_, r0_⟩)
    {e1_ : Option Addr} {m1_ : Nat} {r1_ : Array (Option Value)} {x1_ y1_ w1_ : Tok} (kt1_ : K.lookup t1_ = some ⟨.type "tuple", e1_, .seq #[.int 0 x1_, .int 2 y1_, .int 1 w1_] m1_, r1_⟩)
    {e2_ : Option Addr} {m2_ : Nat} {r2_ : Array (Option Value)} {x2_ y2_ w2_ : Tok} (kt2_ : K.lookup t2_ = some ⟨.type "tuple", e2_, .seq #[.int 1 x2_, .int 0 y2_, .int 2 w2_] m2_, r2_⟩)
    {e3_ : Option Addr} {m3_ : Nat} {r3_ : Array (Option Value)} {x3_ y3_ w3_ : Tok} (kt3_ : K.lookup t3_ = some ⟨.type "tuple", e3_, .seq #[.int 1 x3_, .int 2 y3_, .int 0 w3_] m3_, r3_⟩)
    {e4_ : Option Addr} {m4_ : Nat} {r4_ : Array (Option Value)} {x4_ y4_ w4_ : Tok} (kt4_ : K.lookup t4_ = some ⟨.type "tuple", e4_, .seq #[.int 2 x4_, .int 0 y4_, .int 1 w4_] m4_, r4_⟩)
    {e5_ : Option Addr} {m5_ : Nat} {r5_ : Array (Option Value)} {x5_ y5_ w5_ : Tok} (kt5_ : K.lookup t5_ = some ⟨.type "tuple", e5_, .seq #[.int 2 x5_, .int 1 y5_, .int 0 w5_] m5_, r5_⟩)
    {aL_ : Addr} {dL_ : Option Addr} {nL_ : Nat} {sL_ : Array (Option Value)} {xL_ yL_ wL_ : Tok} (z_LABELS : PySem.W.nsIn K mainGlobals "LABELS" = some (some (.ref aL_)))
    (kL_ : K.lookup aL_ = some ⟨.type "tuple", dL_, .seq #[.str "alone" xL_, .str "top" yL_, .str "upright" wL_] nL_, sL_⟩)
    : ∃ fd : FuncData, (∀ (s : Shared) (u : Value), BindsTo s fd ⟨[u], []⟩ [("_law_script", u)]) ∧ ∀ base : Heap, K.In base → base.Ns mainGlobals mg → VS.SysOk base → VS.FnG l.prog w K mg base (L2.CX l.prog w) 10 fa fd ["_law_script"] (VS.spOf K p_law) := by
  have e := hfa.symm.trans (PySem.W.mg_of X G a44)
  cases e
  have T : Tx K mg := ⟨PySem.W.mg_none_of X G z_all, PySem.W.mg_none_of X G z_bool, PySem.W.mg_none_of X G z_enumerate, PySem.W.mg_none_of X G z_int, PySem.W.mg_none_of X G z_isinstance, PySem.W.mg_none_of X G z_len, PySem.W.mg_none_of X G z_list, PySem.W.mg_none_of X G z_max, PySem.W.mg_none_of X G z_min, PySem.W.mg_none_of X G z_range, PySem.W.mg_none_of X G z_repr, PySem.W.mg_none_of X G z_set, PySem.W.mg_none_of X G z_sorted, PySem.W.mg_none_of X G z_str, PySem.W.mg_none_of X G z_sum, PySem.W.mg_none_of X G z_tuple, ⟨_, PySem.W.mg_of X G z_LETTERS, _, rfl⟩, ⟨_, PySem.W.mg_of X G z_MOST_PARCELS, _, rfl⟩, ⟨_, PySem.W.mg_of X G z_MOST_SIDE, _, rfl⟩, ⟨_, PySem.W.mg_of X G z_MOST_WALL, _, rfl⟩, ⟨_, PySem.W.mg_of X G z_MOST_WEIGHT, _, rfl⟩, ⟨aO, ⟨_, PySem.W.mg_of X G z_ORDERS, rfl⟩, fun H S => .tupK ⟨_, _, _, kO, rfl, rfl, (by show 6 ≤ sizeLine; decide), (.cons (show RelV (.ref t0_) (.ref t0_) from rfl) (.cons (show RelV (.ref t1_) (.ref t1_) from rfl) (.cons (show RelV (.ref t2_) (.ref t2_) from rfl) (.cons (show RelV (.ref t3_) (.ref t3_) from rfl) (.cons (show RelV (.ref t4_) (.ref t4_) from rfl) (.cons (show RelV (.ref t5_) (.ref t5_) from rfl) .nil))))))⟩ (.cons (.tupK ⟨_, _, _, kt0_, rfl, rfl, (by show 3 ≤ sizeLine; decide), (.cons (show RelV (.int 0) (.int 0 x0_) from ⟨_, rfl⟩) (.cons (show RelV (.int 1) (.int 1 y0_) from ⟨_, rfl⟩) (.cons (show RelV (.int 2) (.int 2 w0_) from ⟨_, rfl⟩) .nil)))⟩ (.cons (.int _) (.cons (.int _) (.cons (.int _) .nil)))) (.cons (.tupK ⟨_, _, _, kt1_, rfl, rfl, (by show 3 ≤ sizeLine; decide), (.cons (show RelV (.int 0) (.int 0 x1_) from ⟨_, rfl⟩) (.cons (show RelV (.int 2) (.int 2 y1_) from ⟨_, rfl⟩) (.cons (show RelV (.int 1) (.int 1 w1_) from ⟨_, rfl⟩) .nil)))⟩ (.cons (.int _) (.cons (.int _) (.cons (.int _) .nil)))) (.cons (.tupK ⟨_, _, _, kt2_, rfl, rfl, (by show 3 ≤ sizeLine; decide), (.cons (show RelV (.int 1) (.int 1 x2_) from ⟨_, rfl⟩) (.cons (show RelV (.int 0) (.int 0 y2_) from ⟨_, rfl⟩) (.cons (show RelV (.int 2) (.int 2 w2_) from ⟨_, rfl⟩) .nil)))⟩ (.cons (.int _) (.cons (.int _) (.cons (.int _) .nil)))) (.cons (.tupK ⟨_, _, _, kt3_, rfl, rfl, (by show 3 ≤ sizeLine; decide), (.cons (show RelV (.int 1) (.int 1 x3_) from ⟨_, rfl⟩) (.cons (show RelV (.int 2) (.int 2 y3_) from ⟨_, rfl⟩) (.cons (show RelV (.int 0) (.int 0 w3_) from ⟨_, rfl⟩) .nil)))⟩ (.cons (.int _) (.cons (.int _) (.cons (.int _) .nil)))) (.cons (.tupK ⟨_, _, _, kt4_, rfl, rfl, (by show 3 ≤ sizeLine; decide), (.cons (show RelV (.int 2) (.int 2 x4_) from ⟨_, rfl⟩) (.cons (show RelV (.int 0) (.int 0 y4_) from ⟨_, rfl⟩) (.cons (show RelV (.int 1) (.int 1 w4_) from ⟨_, rfl⟩) .nil)))⟩ (.cons (.int _) (.cons (.int _) (.cons (.int _) .nil)))) (.cons (.tupK ⟨_, _, _, kt5_, rfl, rfl, (by show 3 ≤ sizeLine; decide), (.cons (show RelV (.int 2) (.int 2 x5_) from ⟨_, rfl⟩) (.cons (show RelV (.int 1) (.int 1 y5_) from ⟨_, rfl⟩) (.cons (show RelV (.int 0) (.int 0 w5_) from ⟨_, rfl⟩) .nil)))⟩ (.cons (.int _) (.cons (.int _) (.cons (.int _) .nil)))) .nil))))))⟩, ⟨aL_, ⟨_, PySem.W.mg_of X G z_LABELS, rfl⟩, fun H S => .tupK ⟨_, _, _, kL_, rfl, rfl, (by show 3 ≤ sizeLine; decide), (.cons (show RelV (.str "alone") (.str "alone" xL_) from ⟨_, rfl⟩) (.cons (show RelV (.str "top") (.str "top" yL_) from ⟨_, rfl⟩) (.cons (show RelV (.str "upright") (.str "upright" wL_) from ⟨_, rfl⟩) .nil)))⟩ (.cons (.str _) (.cons (.str _) (.cons (.str _) .nil)))⟩, fun A B h1 h2 => by cases (PySem.W.mg_of X G aXNoNames).symm.trans h1; cases (PySem.W.mg_of X G aXNoNames).symm.trans h2; exact VS.exm_own icNoNames tyXNoNames sbNoNames_NoNames exXNoNames⟩
  have h_SHOWN : (∃ u, mg "SHOWN" = some u ∧ RelV (.ref aDSHOWN) u) ∧ VS.KDct l.prog w K aDSHOWN [("stack", f26), ("tops", f27), ("heavy", f28)] := ⟨⟨_, PySem.W.mg_of X G zDSHOWN, rfl⟩, VS.KDct.of [("stack", f26, tDSHOWN_0), ("tops", f27, tDSHOWN_1), ("heavy", f28, tDSHOWN_2)] kDSHOWN (show (["stack", "tops", "heavy"] : List Str).Nodup by decide +kernel) sDSHOWN⟩
  have k_Sides : Kl_Sides K mg C_Sides := ⟨PySem.W.mg_of X G aKSides, ⟨⟨pgKSides, hdKSides, poKSides, saKSides⟩, haKSides, hnO, htkO, hmKSides, VS.kit_self⟩, nKSides_three, VS.kit_own rfl icKSides tcKSides zKSides_int, VS.kit_own rfl icKSides tcKSides zKSides_bool, VS.kit_own rfl icKSides tcKSides zKSides_str, VS.kit_own rfl icKSides tcKSides zKSides_NoneType, VS.kit_own rfl icKSides tcKSides zKSides_list, VS.kit_own rfl icKSides tcKSides zKSides_tuple, VS.kit_own rfl icKSides tcKSides zKSides_dict, VS.kit_tyO (by decide +kernel) mKSides_0, VS.kit_tyO (by decide +kernel) mKSides_1⟩
  have k_Parcel : Kl_Parcel K mg C_Parcel := ⟨PySem.W.mg_of X G aKParcel, ⟨⟨pgKParcel, hdKParcel, poKParcel, saKParcel⟩, haKParcel, hnO, htkO, hmKParcel, VS.kit_self⟩, nKParcel_called, nKParcel_outside, nKParcel_thick, nKParcel_heavy, nKParcel_strong, nKParcel_marks, nKParcel_told, nKParcel_names, VS.kit_own rfl icKParcel tcKParcel zKParcel_int, VS.kit_own rfl icKParcel tcKParcel zKParcel_bool, VS.kit_own rfl icKParcel tcKParcel zKParcel_str, VS.kit_own rfl icKParcel tcKParcel zKParcel_NoneType, VS.kit_own rfl icKParcel tcKParcel zKParcel_list, VS.kit_own rfl icKParcel tcKParcel zKParcel_tuple, VS.kit_own rfl icKParcel tcKParcel zKParcel_dict⟩
  have k_Heap : Kl_Heap K mg C_Heap := ⟨PySem.W.mg_of X G aKHeap, ⟨⟨pgKHeap, hdKHeap, poKHeap, saKHeap⟩, haKHeap, hnO, htkO, hmKHeap, VS.kit_self⟩, nKHeap_held, nKHeap_told, nKHeap_kind⟩
  have F0 : VS.Fd K "is_whole" "is_whole" s_is_whole [] f0 _ := fd_mk l0 c0 k0
  have b0 : Binds K _ a_is_whole [] := F0.bindsN fun _ _ _ _ _ _ us hl => match us, hl with | [_, _, _], _ => rfl
  have F1 : VS.Fd K "is_name" "is_name" s_is_name [] f1 _ := fd_mk l1 c1 k1
  have b1 : Binds K _ a_is_name [] := F1.bindsN fun _ _ _ _ _ _ us hl => match us, hl with | [_], _ => rfl
  have F2 : VS.Fd K "__init__" "Sides.__init__" s_Sides___init__ [] f2 _ := fd_mk l2 c2 k2
  have b2 : Binds K _ a_Sides___init__ [] := F2.bindsN fun _ _ _ _ _ _ us hl => match us, hl with | [_, _, _, _], _ => rfl
  have F3 : VS.Fd K "told" "Sides.told" s_Sides_told [] f3 _ := fd_mk l3 c3 k3
  have b3 : Binds K _ a_Sides_told [] := F3.bindsN fun _ _ _ _ _ _ us hl => match us, hl with | [_], _ => rfl
  have F4 : VS.Fd K "__repr__" "Sides.__repr__" s_Sides___repr__ [] f4 _ := fd_mk l4 c4 k4
  have b4 : Binds K _ a_Sides___repr__ [] := F4.bindsN fun _ _ _ _ _ _ us hl => match us, hl with | [_], _ => rfl
  have F5 : VS.Fd K "are_labels" "are_labels" s_are_labels [] f5 _ := fd_mk l5 c5 k5
  have b5 : Binds K _ a_are_labels [] := F5.bindsN fun _ _ _ _ _ _ us hl => match us, hl with | [_], _ => rfl
  have F6 : VS.Fd K "__init__" "Parcel.__init__" s_Parcel___init__ [.int 1, .int 0, .int 0, .non] f6 _ := fd_mkD l6 c6 k6 (by decide) t6 (.cons (show RelV (.int 1) _ from ⟨_, rfl⟩) (.cons (show RelV (.int 0) _ from ⟨_, rfl⟩) (.cons (show RelV (.int 0) _ from ⟨_, rfl⟩) (.cons (show RelV (.non) _ from rfl) .nil))))
  obtain ⟨bb6⟩ := VS.bdN (ps := a_Parcel___init__) F6 7 4 (by decide) rfl (fun T kV doc pm an cdv ct us its h1 h2 => match us, its, h1, h2 with | [_, _, _, _, _, _, _], [_, _, _, _], _, _ => ⟨_, rfl, rfl⟩)
  have b6 : Binds K _ a_Parcel___init__ [] := VS.bd_nil bb6
  have F7 : VS.Fd K "sides" "Parcel.sides" s_Parcel_sides [] f7 _ := fd_mk l7 c7 k7
  have b7 : Binds K _ a_Parcel_sides [] := F7.bindsN fun _ _ _ _ _ _ us hl => match us, hl with | [_], _ => rfl
  have F8 : VS.Fd K "name" "Parcel.name" s_Parcel_name [] f8 _ := fd_mk l8 c8 k8
  have b8 : Binds K _ a_Parcel_name [] := F8.bindsN fun _ _ _ _ _ _ us hl => match us, hl with | [_], _ => rfl
  have F9 : VS.Fd K "weight" "Parcel.weight" s_Parcel_weight [] f9 _ := fd_mk l9 c9 k9
  have b9 : Binds K _ a_Parcel_weight [] := F9.bindsN fun _ _ _ _ _ _ us hl => match us, hl with | [_], _ => rfl
  have F10 : VS.Fd K "bears" "Parcel.bears" s_Parcel_bears [] f10 _ := fd_mk l10 c10 k10
  have b10 : Binds K _ a_Parcel_bears [] := F10.bindsN fun _ _ _ _ _ _ us hl => match us, hl with | [_], _ => rfl
  have F11 : VS.Fd K "labels" "Parcel.labels" s_Parcel_labels [] f11 _ := fd_mk l11 c11 k11
  have b11 : Binds K _ a_Parcel_labels [] := F11.bindsN fun _ _ _ _ _ _ us hl => match us, hl with | [_], _ => rfl
  have F12 : VS.Fd K "__init__" "Heap.__init__" s_Heap___init__ [] f12 _ := fd_mk l12 c12 k12
  have b12 : Binds K _ a_Heap___init__ [] := F12.bindsN fun _ _ _ _ _ _ us hl => match us, hl with | [_], _ => rfl
  have F13 : VS.Fd K "names" "Heap.names" s_Heap_names [] f13 _ := fd_mk l13 c13 k13
  have b13 : Binds K _ a_Heap_names [] := F13.bindsN fun _ _ _ _ _ _ us hl => match us, hl with | [_], _ => rfl
  have F14 : VS.Fd K "place_of" "Heap.place_of" s_Heap_place_of [] f14 _ := fd_mk l14 c14 k14
  have b14 : Binds K _ a_Heap_place_of [] := F14.bindsN fun _ _ _ _ _ _ us hl => match us, hl with | [_, _], _ => rfl
  have F15 : VS.Fd K "put" "Heap.put" s_Heap_put [.non] f15 _ := fd_mkD l15 c15 k15 (by decide) t15 (.cons (show RelV (.non) _ from rfl) .nil)
  obtain ⟨bb15⟩ := VS.bdN (ps := a_Heap_put) F15 3 1 (by decide) rfl (fun T kV doc pm an cdv ct us its h1 h2 => match us, its, h1, h2 with | [_, _, _], [_], _, _ => ⟨_, rfl, rfl⟩)
  have b15 : Binds K _ a_Heap_put [] := VS.bd_nil bb15
  have F16 : VS.Fd K "out" "Heap.out" s_Heap_out [] f16 _ := fd_mk l16 c16 k16
  have b16 : Binds K _ a_Heap_out [] := F16.bindsN fun _ _ _ _ _ _ us hl => match us, hl with | [_, _], _ => rfl
  have F17 : VS.Fd K "parcel" "Heap.parcel" s_Heap_parcel [] f17 _ := fd_mk l17 c17 k17
  have b17 : Binds K _ a_Heap_parcel [] := F17.bindsN fun _ _ _ _ _ _ us hl => match us, hl with | [_, _], _ => rfl
  have F18 : VS.Fd K "are_names" "are_names" s_are_names [] f18 _ := fd_mk l18 c18 k18
  have b18 : Binds K _ a_are_names [] := F18.bindsN fun _ _ _ _ _ _ us hl => match us, hl with | [_, _, _], _ => rfl
  have F19 : VS.Fd K "need_names" "need_names" s_need_names [] f19 _ := fd_mk l19 c19 k19
  have b19 : Binds K _ a_need_names [] := F19.bindsN fun _ _ _ _ _ _ us hl => match us, hl with | [_, _], _ => rfl
  have F20 : VS.Fd K "is_top" "is_top" s_is_top [] f20 _ := fd_mk l20 c20 k20
  have b20 : Binds K _ a_is_top [] := F20.bindsN fun _ _ _ _ _ _ us hl => match us, hl with | [_], _ => rfl
  have F21 : VS.Fd K "fault_of" "fault_of" s_fault_of [] f21 _ := fd_mk l21 c21 k21
  have b21 : Binds K _ a_fault_of [] := F21.bindsN fun _ _ _ _ _ _ us hl => match us, hl with | [_], _ => rfl
  have F22 : VS.Fd K "might_of" "might_of" s_might_of [] f22 _ := fd_mk l22 c22 k22
  have b22 : Binds K _ a_might_of [] := F22.bindsN fun _ _ _ _ _ _ us hl => match us, hl with | [_], _ => rfl
  have F23 : VS.Fd K "stack_fault" "stack_fault" s_stack_fault [] f23 _ := fd_mk l23 c23 k23
  have b23 : Binds K _ a_stack_fault [] := F23.bindsN fun _ _ _ _ _ _ us hl => match us, hl with | [_, _], _ => rfl
  have F24 : VS.Fd K "heights" "heights" s_heights [] f24 _ := fd_mk l24 c24 k24
  have b24 : Binds K _ a_heights [] := F24.bindsN fun _ _ _ _ _ _ us hl => match us, hl with | [_, _], _ => rfl
  have F25 : VS.Fd K "stacked" "stacked" s_stacked [] f25 _ := fd_mk l25 c25 k25
  have b25 : Binds K _ a_stacked [] := F25.bindsN fun _ _ _ _ _ _ us hl => match us, hl with | [_, _], _ => rfl
  have F26 : VS.Fd K "is_stack" "is_stack" s_is_stack [] f26 _ := fd_mk l26 c26 k26
  have b26 : Binds K _ a_is_stack [] := F26.bindsN fun _ _ _ _ _ _ us hl => match us, hl with | [_, _], _ => rfl
  have F27 : VS.Fd K "are_tops" "are_tops" s_are_tops [] f27 _ := fd_mk l27 c27 k27
  have b27 : Binds K _ a_are_tops [] := F27.bindsN fun _ _ _ _ _ _ us hl => match us, hl with | [_, _], _ => rfl
  have F28 : VS.Fd K "are_heavy" "are_heavy" s_are_heavy [] f28 _ := fd_mk l28 c28 k28
  have b28 : Binds K _ a_are_heavy [] := F28.bindsN fun _ _ _ _ _ _ us hl => match us, hl with | [_, _], _ => rfl
  have F29 : VS.Fd K "shows_stacked" "shows_stacked" s_shows_stacked [] f29 _ := fd_mk l29 c29 k29
  have b29 : Binds K _ a_shows_stacked [] := F29.bindsN fun _ _ _ _ _ _ us hl => match us, hl with | [_, _, _], _ => rfl
  have F30 : VS.Fd K "_law_cell" "_law_cell" s__law_cell [] f30 _ := fd_mk l30 c30 k30
  have b30 : Binds K _ a__law_cell [] := F30.bindsN fun _ _ _ _ _ _ us hl => match us, hl with | [_, _], _ => rfl
  have F31 : VS.Fd K "_law_purse" "_law_purse" s__law_purse [] f31 _ := fd_mk l31 c31 k31
  have b31 : Binds K _ a__law_purse [] := F31.bindsN fun _ _ _ _ _ _ us hl => match us, hl with | [_], _ => rfl
  have F32 : VS.Fd K "_law_take" "_law_take" s__law_take [] f32 _ := fd_mk l32 c32 k32
  have b32 : Binds K _ a__law_take [] := F32.bindsN fun _ _ _ _ _ _ us hl => match us, hl with | [_, _], _ => rfl
  have F33 : VS.Fd K "_law_names" "_law_names" s__law_names [] f33 _ := fd_mk l33 c33 k33
  have b33 : Binds K _ a__law_names [] := F33.bindsN fun _ _ _ _ _ _ us hl => match us, hl with | [_, _], _ => rfl
  have F34 : VS.Fd K "_law_pile" "_law_pile" s__law_pile [] f34 _ := fd_mk l34 c34 k34
  have b34 : Binds K _ a__law_pile [] := F34.bindsN fun _ _ _ _ _ _ us hl => match us, hl with | [_], _ => rfl
  have F35 : VS.Fd K "_law_shuffled" "_law_shuffled" s__law_shuffled [] f35 _ := fd_mk l35 c35 k35
  have b35 : Binds K _ a__law_shuffled [] := F35.bindsN fun _ _ _ _ _ _ us hl => match us, hl with | [_, _], _ => rfl
  have F36 : VS.Fd K "_law_some" "_law_some" s__law_some [] f36 _ := fd_mk l36 c36 k36
  have b36 : Binds K _ a__law_some [] := F36.bindsN fun _ _ _ _ _ _ us hl => match us, hl with | [_, _], _ => rfl
  have F37 : VS.Fd K "_law_heap" "_law_heap" s__law_heap [] f37 _ := fd_mk l37 c37 k37
  have b37 : Binds K _ a__law_heap [] := F37.bindsN fun _ _ _ _ _ _ us hl => match us, hl with | [_], _ => rfl
  have F38 : VS.Fd K "_law_spoilt_names" "_law_spoilt_names" s__law_spoilt_names [] f38 _ := fd_mk l38 c38 k38
  have b38 : Binds K _ a__law_spoilt_names [] := F38.bindsN fun _ _ _ _ _ _ us hl => match us, hl with | [_, _, _], _ => rfl
  have F39 : VS.Fd K "_law_good" "_law_good" s__law_good [] f39 _ := fd_mk l39 c39 k39
  have b39 : Binds K _ a__law_good [] := F39.bindsN fun _ _ _ _ _ _ us hl => match us, hl with | [_, _], _ => rfl
  have F40 : VS.Fd K "_law_look" "_law_look" s__law_look [] f40 _ := fd_mk l40 c40 k40
  have b40 : Binds K _ a__law_look [] := F40.bindsN fun _ _ _ _ _ _ us hl => match us, hl with | [_, _, _, _], _ => rfl
  have F41 : VS.Fd K "_law_asked" "_law_asked" s__law_asked [] f41 _ := fd_mk l41 c41 k41
  have b41 : Binds K _ a__law_asked [] := F41.bindsN fun _ _ _ _ _ _ us hl => match us, hl with | [_, _, _, _], _ => rfl
  have F42 : VS.Fd K "_law_right" "_law_right" s__law_right [] f42 _ := fd_mk l42 c42 k42
  have b42 : Binds K _ a__law_right [] := F42.bindsN fun _ _ _ _ _ _ us hl => match us, hl with | [_, _, _], _ => rfl
  have F43 : VS.Fd K "_law_told_right" "_law_told_right" s__law_told_right [] f43 _ := fd_mk l43 c43 k43
  have b43 : Binds K _ a__law_told_right [] := F43.bindsN fun _ _ _ _ _ _ us hl => match us, hl with | [_, _, _], _ => rfl
  have F44 : VS.Fd K "law" "law" s_law [] fa _ := fd_mk l44 c44 k44
  have FXNoSide : VS.Fd K "__init__" "NoSide.__init__" s_NoSide___init__ [] fXNoSide _ := fd_mk lXNoSide cXNoSide kXNoSide
  have bXNoSide : Binds K _ a_NoSide___init__ [] := FXNoSide.bindsN fun _ _ _ _ _ _ us hl => match us, hl with | [_, _], _ => rfl
  have FXNoNames : VS.Fd K "__init__" "NoNames.__init__" s_NoNames___init__ [] fXNoNames _ := fd_mk lXNoNames cXNoNames kXNoNames
  have bXNoNames : Binds K _ a_NoNames___init__ [] := FXNoNames.bindsN fun _ _ _ _ _ _ us hl => match us, hl with | [_, _], _ => rfl
  refine ⟨_, fun s u => F44.bindsA (ps := ["_law_script"]) (fun _ _ _ _ _ _ us hl => match us, hl with | [_], _ => rfl) s [u] rfl, fun base _ _ hsys => ?_⟩
  have oxXNoSide : VS.OexG K C_NoSide := ⟨⟨nmXNoSide, qnXNoSide, NXNoSide, bsXNoSide, _, snXNoSide, suXNoSide, abXNoSide, coXNoSide, ddXNoSide, k0XNoSide, k1XNoSide, k2XNoSide, k3XNoSide, k5XNoSide, _, xXNoSide, VS.bmG_VE.up⟩, saXNoSide, exXNoSide, tyXNoSide, kcXNoSide⟩
  have x_NoSide : VS.Xc l.prog w K mg base "NoSide" C_NoSide "found" := ⟨oxXNoSide, ⟨gaXNoSide, ggXNoSide, exXNoSide, hdXNoSide⟩, noXNoSide, PySem.W.mg_of X G aXNoSide, fXNoSide, _, _, iXNoSide, tXNoSide, VS.xinit_ok (f := "found") FXNoSide sc_NoSide___init__ rfl oxXNoSide noXNoSide (fun cdv A outer s H E => pss_one (VS.ps_ostG (pv 0) (pv 1))), bXNoSide⟩
  have oxXNoNames : VS.OexG K C_NoNames := ⟨⟨nmXNoNames, qnXNoNames, NXNoNames, bsXNoNames, _, snXNoNames, suXNoNames, abXNoNames, coXNoNames, ddXNoNames, k0XNoNames, k1XNoNames, k2XNoNames, k3XNoNames, k5XNoNames, _, xXNoNames, VS.bmG_VE.up⟩, saXNoNames, exXNoNames, tyXNoNames, kcXNoNames⟩
  have x_NoNames : VS.Xc l.prog w K mg base "NoNames" C_NoNames "found" := ⟨oxXNoNames, ⟨gaXNoNames, ggXNoNames, exXNoNames, hdXNoNames⟩, noXNoNames, PySem.W.mg_of X G aXNoNames, fXNoNames, _, _, iXNoNames, tXNoNames, VS.xinit_ok (f := "found") FXNoNames sc_NoNames___init__ rfl oxXNoNames noXNoNames (fun cdv A outer s H E => pss_one (VS.ps_ostG (pv 0) (pv 1))), bXNoNames⟩
  have c_is_whole : VS.Cf l.prog w K mg base (L2.CX l.prog w) 1 "is_whole" s_is_whole [] a_is_whole (p_is_whole K) f0 _ := ⟨ok_is_whole (C_Sides := C_Sides) (C_Parcel := C_Parcel) (C_Heap := C_Heap) (C_NoSide := C_NoSide) (C_NoNames := C_NoNames) F0 T hsys, F0, PySem.W.mg_of X G a0, b0⟩
  have c_is_name : VS.Cf l.prog w K mg base (L2.CX l.prog w) 1 "is_name" s_is_name [] a_is_name (p_is_name K) f1 _ := ⟨ok_is_name (C_Sides := C_Sides) (C_Parcel := C_Parcel) (C_Heap := C_Heap) (C_NoSide := C_NoSide) (C_NoNames := C_NoNames) F1 T hsys, F1, PySem.W.mg_of X G a1, b1⟩
  have c_Sides : VS.Kf l.prog w K mg base 3 "Sides" C_Sides "Sides.__init__" s_Sides___init__ [] a_Sides___init__ (p_Sides_init K C_Sides C_NoSide) f2 _ := ⟨⟨mk2, a2, i2, kc2⟩, ok_Sides___init__ (C_Sides := C_Sides) (C_Parcel := C_Parcel) (C_Heap := C_Heap) (C_NoSide := C_NoSide) (C_NoNames := C_NoNames) F2 T hsys c_is_whole x_NoSide k_Sides, F2, k_Sides.at_, b2⟩
  have c_Sides_told : VS.Mf l.prog w K mg base 1 C_Sides "told" "Sides.told" s_Sides_told [] a_Sides_told (p_told C_Sides) f3 _ := ⟨ok_Sides_told (C_Sides := C_Sides) (C_Parcel := C_Parcel) (C_Heap := C_Heap) (C_NoSide := C_NoSide) (C_NoNames := C_NoNames) F3 T hsys k_Sides, F3, k_Sides.ins.cl, ⟨a3, i3, k3⟩, b3⟩
  have c_Sides___repr__ : VS.Mf l.prog w K mg base 1 C_Sides "__repr__" "Sides.__repr__" s_Sides___repr__ [] a_Sides___repr__ (p_repr C_Sides) f4 _ := ⟨ok_Sides___repr__ (C_Sides := C_Sides) (C_Parcel := C_Parcel) (C_Heap := C_Heap) (C_NoSide := C_NoSide) (C_NoNames := C_NoNames) F4 T hsys k_Sides, F4, k_Sides.ins.cl, ⟨a4, i4, k4⟩, b4⟩
  have c_are_labels : VS.Cf l.prog w K mg base (L2.CX l.prog w) 1 "are_labels" s_are_labels [] a_are_labels p_are_labels f5 _ := ⟨ok_are_labels (C_Sides := C_Sides) (C_Parcel := C_Parcel) (C_Heap := C_Heap) (C_NoSide := C_NoSide) (C_NoNames := C_NoNames) F5 T hsys, F5, PySem.W.mg_of X G a5, b5⟩
  have c_Parcel : VS.Kf l.prog w K mg base 3 "Parcel" C_Parcel "Parcel.__init__" s_Parcel___init__ [.int 1, .int 0, .int 0, .non] a_Parcel___init__ (p_Pc_init C_Parcel C_Sides) f6 _ := ⟨⟨mk6, a6, i6, kc6⟩, ok_Parcel___init__ (C_Sides := C_Sides) (C_Parcel := C_Parcel) (C_Heap := C_Heap) (C_NoSide := C_NoSide) (C_NoNames := C_NoNames) F6 T hsys c_is_name c_is_whole c_are_labels k_Sides k_Parcel, F6, k_Parcel.at_, b6⟩
  have c_Parcel_sides : VS.Mf l.prog w K mg base 1 C_Parcel "sides" "Parcel.sides" s_Parcel_sides [] a_Parcel_sides (p_Pc_sides C_Parcel C_Sides) f7 _ := ⟨ok_Parcel_sides (C_Sides := C_Sides) (C_Parcel := C_Parcel) (C_Heap := C_Heap) (C_NoSide := C_NoSide) (C_NoNames := C_NoNames) F7 T hsys k_Parcel k_Sides, F7, k_Parcel.ins.cl, ⟨a7, i7, k7⟩, b7⟩
  have c_Parcel_name : VS.Mf l.prog w K mg base 1 C_Parcel "name" "Parcel.name" s_Parcel_name [] a_Parcel_name (p_Pc_name C_Parcel C_Sides) f8 _ := ⟨ok_Parcel_name (C_Sides := C_Sides) (C_Parcel := C_Parcel) (C_Heap := C_Heap) (C_NoSide := C_NoSide) (C_NoNames := C_NoNames) F8 T hsys k_Parcel k_Sides, F8, k_Parcel.ins.cl, ⟨a8, i8, k8⟩, b8⟩
  have c_Parcel_weight : VS.Mf l.prog w K mg base 1 C_Parcel "weight" "Parcel.weight" s_Parcel_weight [] a_Parcel_weight (p_Pc_weight C_Parcel C_Sides) f9 _ := ⟨ok_Parcel_weight (C_Sides := C_Sides) (C_Parcel := C_Parcel) (C_Heap := C_Heap) (C_NoSide := C_NoSide) (C_NoNames := C_NoNames) F9 T hsys k_Parcel k_Sides, F9, k_Parcel.ins.cl, ⟨a9, i9, k9⟩, b9⟩
  have c_Parcel_bears : VS.Mf l.prog w K mg base 1 C_Parcel "bears" "Parcel.bears" s_Parcel_bears [] a_Parcel_bears (p_Pc_bears C_Parcel C_Sides) f10 _ := ⟨ok_Parcel_bears (C_Sides := C_Sides) (C_Parcel := C_Parcel) (C_Heap := C_Heap) (C_NoSide := C_NoSide) (C_NoNames := C_NoNames) F10 T hsys k_Parcel k_Sides, F10, k_Parcel.ins.cl, ⟨a10, i10, k10⟩, b10⟩
  have c_Parcel_labels : VS.Mf l.prog w K mg base 1 C_Parcel "labels" "Parcel.labels" s_Parcel_labels [] a_Parcel_labels (p_Pc_labels C_Parcel C_Sides) f11 _ := ⟨ok_Parcel_labels (C_Sides := C_Sides) (C_Parcel := C_Parcel) (C_Heap := C_Heap) (C_NoSide := C_NoSide) (C_NoNames := C_NoNames) F11 T hsys k_Parcel k_Sides, F11, k_Parcel.ins.cl, ⟨a11, i11, k11⟩, b11⟩
  have c_Heap : VS.Kf l.prog w K mg base 1 "Heap" C_Heap "Heap.__init__" s_Heap___init__ [] a_Heap___init__ (p_Hp_init C_Heap) f12 _ := ⟨⟨mk12, a12, i12, kc12⟩, ok_Heap___init__ (C_Sides := C_Sides) (C_Parcel := C_Parcel) (C_Heap := C_Heap) (C_NoSide := C_NoSide) (C_NoNames := C_NoNames) F12 T hsys k_Heap, F12, k_Heap.at_, b12⟩
  have c_Heap_names : VS.Mf l.prog w K mg base 2 C_Heap "names" "Heap.names" s_Heap_names [] a_Heap_names (p_Hp_names C_Heap C_Parcel C_Sides) f13 _ := ⟨ok_Heap_names (C_Sides := C_Sides) (C_Parcel := C_Parcel) (C_Heap := C_Heap) (C_NoSide := C_NoSide) (C_NoNames := C_NoNames) F13 T hsys c_Parcel_name k_Heap k_Parcel k_Sides, F13, k_Heap.ins.cl, ⟨a13, i13, k13⟩, b13⟩
  have c_Heap_place_of : VS.Mf l.prog w K mg base 2 C_Heap "place_of" "Heap.place_of" s_Heap_place_of [] a_Heap_place_of (p_Hp_place C_Heap C_Parcel C_Sides) f14 _ := ⟨ok_Heap_place_of (C_Sides := C_Sides) (C_Parcel := C_Parcel) (C_Heap := C_Heap) (C_NoSide := C_NoSide) (C_NoNames := C_NoNames) F14 T hsys c_Parcel_name k_Heap k_Parcel k_Sides, F14, k_Heap.ins.cl, ⟨a14, i14, k14⟩, b14⟩
  have c_Heap_put : VS.Mf l.prog w K mg base 3 C_Heap "put" "Heap.put" s_Heap_put [.non] a_Heap_put (p_Hp_putA C_Heap C_Parcel C_Sides) f15 _ := ⟨ok_Heap_put (C_Sides := C_Sides) (C_Parcel := C_Parcel) (C_Heap := C_Heap) (C_NoSide := C_NoSide) (C_NoNames := C_NoNames) F15 T hsys c_Heap_names c_Parcel_name k_Heap k_Parcel k_Sides c_Heap_place_of, F15, k_Heap.ins.cl, ⟨a15, i15, k15⟩, b15⟩
  have c_Heap_out : VS.Mf l.prog w K mg base 3 C_Heap "out" "Heap.out" s_Heap_out [] a_Heap_out (p_Hp_out C_Heap C_Parcel C_Sides) f16 _ := ⟨ok_Heap_out (C_Sides := C_Sides) (C_Parcel := C_Parcel) (C_Heap := C_Heap) (C_NoSide := C_NoSide) (C_NoNames := C_NoNames) F16 T hsys c_Heap_place_of k_Heap k_Parcel k_Sides, F16, k_Heap.ins.cl, ⟨a16, i16, k16⟩, b16⟩
  have c_Heap_parcel : VS.Mf l.prog w K mg base 3 C_Heap "parcel" "Heap.parcel" s_Heap_parcel [] a_Heap_parcel (p_Hp_parcel C_Heap C_Parcel C_Sides) f17 _ := ⟨ok_Heap_parcel (C_Sides := C_Sides) (C_Parcel := C_Parcel) (C_Heap := C_Heap) (C_NoSide := C_NoSide) (C_NoNames := C_NoNames) F17 T hsys c_Heap_place_of k_Heap k_Parcel k_Sides, F17, k_Heap.ins.cl, ⟨a17, i17, k17⟩, b17⟩
  have c_are_names : VS.Cf l.prog w K mg base (L2.CX l.prog w) 3 "are_names" s_are_names [] a_are_names (p_are_names40 K C_Heap C_Parcel C_Sides) f18 _ := ⟨ok_are_names (C_Sides := C_Sides) (C_Parcel := C_Parcel) (C_Heap := C_Heap) (C_NoSide := C_NoSide) (C_NoNames := C_NoNames) F18 T hsys c_Heap_names k_Heap k_Parcel k_Sides, F18, PySem.W.mg_of X G a18, b18⟩
  have c_need_names : VS.Cf l.prog w K mg base (L2.CX l.prog w) 4 "need_names" s_need_names [] a_need_names (p_need_names40 K C_Heap C_Parcel C_Sides C_NoNames) f19 _ := ⟨ok_need_names (C_Sides := C_Sides) (C_Parcel := C_Parcel) (C_Heap := C_Heap) (C_NoSide := C_NoSide) (C_NoNames := C_NoNames) F19 T hsys c_are_names x_NoNames k_Heap k_Parcel k_Sides, F19, PySem.W.mg_of X G a19, b19⟩
  have c_is_top : VS.Cf l.prog w K mg base (L2.CX l.prog w) 2 "is_top" s_is_top [] a_is_top (p_is_top C_Parcel C_Sides) f20 _ := ⟨ok_is_top (C_Sides := C_Sides) (C_Parcel := C_Parcel) (C_Heap := C_Heap) (C_NoSide := C_NoSide) (C_NoNames := C_NoNames) F20 T hsys c_Parcel_labels k_Parcel k_Sides, F20, PySem.W.mg_of X G a20, b20⟩
  have c_fault_of : VS.Cf l.prog w K mg base (L2.CX l.prog w) 3 "fault_of" s_fault_of [] a_fault_of (p_fault_of C_Parcel C_Sides) f21 _ := ⟨ok_fault_of (C_Sides := C_Sides) (C_Parcel := C_Parcel) (C_Heap := C_Heap) (C_NoSide := C_NoSide) (C_NoNames := C_NoNames) F21 T hsys c_Parcel_weight c_Parcel_bears c_Parcel_name c_is_top k_Parcel k_Sides, F21, PySem.W.mg_of X G a21, b21⟩
  have c_might_of : VS.Cf l.prog w K mg base (L2.CX l.prog w) 2 "might_of" s_might_of [] a_might_of (p_might_of C_Parcel C_Sides) f22 _ := ⟨ok_might_of (C_Sides := C_Sides) (C_Parcel := C_Parcel) (C_Heap := C_Heap) (C_NoSide := C_NoSide) (C_NoNames := C_NoNames) F22 T hsys c_Parcel_weight c_Parcel_bears k_Parcel k_Sides, F22, PySem.W.mg_of X G a22, b22⟩
  have c_stack_fault : VS.Cf l.prog w K mg base (L2.CX l.prog w) 5 "stack_fault" s_stack_fault [] a_stack_fault (p_stack_fault40 K C_Heap C_Parcel C_Sides C_NoNames) f23 _ := ⟨ok_stack_fault (C_Sides := C_Sides) (C_Parcel := C_Parcel) (C_Heap := C_Heap) (C_NoSide := C_NoSide) (C_NoNames := C_NoNames) F23 T hsys c_need_names c_Heap_parcel c_fault_of k_Heap k_Parcel k_Sides, F23, PySem.W.mg_of X G a23, b23⟩
  have c_heights : VS.Cf l.prog w K mg base (L2.CX l.prog w) 5 "heights" s_heights [] a_heights (p_heights40 K C_Heap C_Parcel C_Sides C_NoNames) f24 _ := ⟨ok_heights (C_Sides := C_Sides) (C_Parcel := C_Parcel) (C_Heap := C_Heap) (C_NoSide := C_NoSide) (C_NoNames := C_NoNames) F24 T hsys c_need_names c_Heap_parcel c_Parcel_sides c_Parcel_labels c_Sides_told k_Heap k_Parcel k_Sides, F24, PySem.W.mg_of X G a24, b24⟩
  have c_stacked : VS.Cf l.prog w K mg base (L2.CX l.prog w) 5 "stacked" s_stacked [] a_stacked (p_stacked40 K C_Heap C_Parcel C_Sides C_NoNames) f25 _ := ⟨ok_stacked (C_Sides := C_Sides) (C_Parcel := C_Parcel) (C_Heap := C_Heap) (C_NoSide := C_NoSide) (C_NoNames := C_NoNames) F25 T hsys c_need_names c_Heap_parcel c_might_of c_is_top c_fault_of c_Parcel_name k_Heap k_Parcel k_Sides, F25, PySem.W.mg_of X G a25, b25⟩
  have c_is_stack : VS.Cf l.prog w K mg base (L2.CX l.prog w) 4 "is_stack" s_is_stack [] a_is_stack (p_is_stack C_Parcel C_Sides) f26 _ := ⟨ok_is_stack (C_Sides := C_Sides) (C_Parcel := C_Parcel) (C_Heap := C_Heap) (C_NoSide := C_NoSide) (C_NoNames := C_NoNames) F26 T hsys c_fault_of k_Parcel k_Sides, F26, PySem.W.mg_of X G a26, b26⟩
  have c_are_tops : VS.Cf l.prog w K mg base (L2.CX l.prog w) 3 "are_tops" s_are_tops [] a_are_tops (p_are_tops C_Parcel C_Sides) f27 _ := ⟨ok_are_tops (C_Sides := C_Sides) (C_Parcel := C_Parcel) (C_Heap := C_Heap) (C_NoSide := C_NoSide) (C_NoNames := C_NoNames) F27 T hsys c_is_top k_Parcel k_Sides, F27, PySem.W.mg_of X G a27, b27⟩
  have c_are_heavy : VS.Cf l.prog w K mg base (L2.CX l.prog w) 3 "are_heavy" s_are_heavy [] a_are_heavy (p_are_heavy C_Parcel C_Sides) f28 _ := ⟨ok_are_heavy (C_Sides := C_Sides) (C_Parcel := C_Parcel) (C_Heap := C_Heap) (C_NoSide := C_NoSide) (C_NoNames := C_NoNames) F28 T hsys c_might_of c_is_top c_Parcel_weight k_Parcel k_Sides, F28, PySem.W.mg_of X G a28, b28⟩
  have c_shows_stacked : VS.Cf l.prog w K mg base (L2.CX l.prog w) 6 "shows_stacked" s_shows_stacked [] a_shows_stacked (p_shows_stacked40 K C_Heap C_Parcel C_Sides C_NoNames) f29 _ := ⟨ok_shows_stacked (C_Sides := C_Sides) (C_Parcel := C_Parcel) (C_Heap := C_Heap) (C_NoSide := C_NoSide) (C_NoNames := C_NoNames) F29 T hsys c_need_names c_are_names c_Heap_parcel c_is_stack c_are_tops c_are_heavy h_SHOWN k_Heap k_Parcel k_Sides, F29, PySem.W.mg_of X G a29, b29⟩
  have c__law_cell : VS.Cf l.prog w K mg base (L2.CX l.prog w) 1 "_law_cell" s__law_cell [] a__law_cell p__law_cell f30 _ := ⟨ok__law_cell (C_Sides := C_Sides) (C_Parcel := C_Parcel) (C_Heap := C_Heap) (C_NoSide := C_NoSide) (C_NoNames := C_NoNames) F30 T hsys, F30, PySem.W.mg_of X G a30, b30⟩
  have c__law_purse : VS.Cf l.prog w K mg base (L2.CX l.prog w) 1 "_law_purse" s__law_purse [] a__law_purse p__law_purse f31 _ := ⟨ok__law_purse (C_Sides := C_Sides) (C_Parcel := C_Parcel) (C_Heap := C_Heap) (C_NoSide := C_NoSide) (C_NoNames := C_NoNames) F31 T hsys, F31, PySem.W.mg_of X G a31, b31⟩
  have c__law_take : VS.Cf l.prog w K mg base (L2.CX l.prog w) 1 "_law_take" s__law_take [] a__law_take p__law_take f32 _ := ⟨ok__law_take (C_Sides := C_Sides) (C_Parcel := C_Parcel) (C_Heap := C_Heap) (C_NoSide := C_NoSide) (C_NoNames := C_NoNames) F32 T hsys, F32, PySem.W.mg_of X G a32, b32⟩
  have c__law_names : VS.Cf l.prog w K mg base (L2.CX l.prog w) 2 "_law_names" s__law_names [] a__law_names p__law_names f33 _ := ⟨ok__law_names (C_Sides := C_Sides) (C_Parcel := C_Parcel) (C_Heap := C_Heap) (C_NoSide := C_NoSide) (C_NoNames := C_NoNames) F33 T hsys c__law_take, F33, PySem.W.mg_of X G a33, b33⟩
  have c__law_pile : VS.Cf l.prog w K mg base (L2.CX l.prog w) 3 "_law_pile" s__law_pile [] a__law_pile p__law_pile f34 _ := ⟨ok__law_pile (C_Sides := C_Sides) (C_Parcel := C_Parcel) (C_Heap := C_Heap) (C_NoSide := C_NoSide) (C_NoNames := C_NoNames) F34 T hsys c__law_take c__law_names, F34, PySem.W.mg_of X G a34, b34⟩
  have c__law_shuffled : VS.Cf l.prog w K mg base (L2.CX l.prog w) 2 "_law_shuffled" s__law_shuffled [] a__law_shuffled p_shuf40 f35 _ := ⟨ok__law_shuffled (C_Sides := C_Sides) (C_Parcel := C_Parcel) (C_Heap := C_Heap) (C_NoSide := C_NoSide) (C_NoNames := C_NoNames) F35 T hsys c__law_take, F35, PySem.W.mg_of X G a35, b35⟩
  have c__law_some : VS.Cf l.prog w K mg base (L2.CX l.prog w) 3 "_law_some" s__law_some [] a__law_some p__law_some f36 _ := ⟨ok__law_some (C_Sides := C_Sides) (C_Parcel := C_Parcel) (C_Heap := C_Heap) (C_NoSide := C_NoSide) (C_NoNames := C_NoNames) F36 T hsys c__law_take c__law_shuffled, F36, PySem.W.mg_of X G a36, b36⟩
  obtain ⟨d_Heap_put2⟩ := VS.bdN (ps := a_Heap_put) F15 2 0 (by decide) rfl (fun T kV doc pm an cdv ct us its h1 h2 => match us, its, h1, h2 with | [_, _], [_], _, _ => ⟨_, rfl, rfl⟩)
  have c__law_heap : VS.Cf l.prog w K mg base (L2.CX l.prog w) 5 "_law_heap" s__law_heap [] a__law_heap (p_heapP C_Heap C_Parcel C_Sides) f37 _ := ⟨ok__law_heap (C_Sides := C_Sides) (C_Parcel := C_Parcel) (C_Heap := C_Heap) (C_NoSide := C_NoSide) (C_NoNames := C_NoNames) F37 T hsys c_Sides c_Parcel c_Heap c_Heap_put d_Heap_put2 k_Heap k_Parcel k_Sides, F37, PySem.W.mg_of X G a37, b37⟩
  have c__law_spoilt_names : VS.Cf l.prog w K mg base (L2.CX l.prog w) 2 "_law_spoilt_names" s__law_spoilt_names [] a__law_spoilt_names p_spoilt40 f38 _ := ⟨ok__law_spoilt_names (C_Sides := C_Sides) (C_Parcel := C_Parcel) (C_Heap := C_Heap) (C_NoSide := C_NoSide) (C_NoNames := C_NoNames) F38 T hsys c__law_take, F38, PySem.W.mg_of X G a38, b38⟩
  have c__law_good : VS.Cf l.prog w K mg base (L2.CX l.prog w) 1 "_law_good" s__law_good [] a__law_good (p__law_good K) f39 _ := ⟨ok__law_good (C_Sides := C_Sides) (C_Parcel := C_Parcel) (C_Heap := C_Heap) (C_NoSide := C_NoSide) (C_NoNames := C_NoNames) F39 T hsys, F39, PySem.W.mg_of X G a39, b39⟩
  have c__law_look : VS.Cf l.prog w K mg base (L2.CX l.prog w) 7 "_law_look" s__law_look [] a__law_look (p_look40 K C_Heap C_Parcel C_Sides C_NoNames) f40 _ := ⟨ok__law_look (C_Sides := C_Sides) (C_Parcel := C_Parcel) (C_Heap := C_Heap) (C_NoSide := C_NoSide) (C_NoNames := C_NoNames) F40 T hsys c_stack_fault c_stacked c_shows_stacked c_heights k_Heap k_Parcel k_Sides, F40, PySem.W.mg_of X G a40, b40⟩
  have c__law_asked : VS.Cf l.prog w K mg base (L2.CX l.prog w) 8 "_law_asked" s__law_asked [] a__law_asked (p_asked40 K C_Heap C_Parcel C_Sides) f41 _ := ⟨ok__law_asked (C_Sides := C_Sides) (C_Parcel := C_Parcel) (C_Heap := C_Heap) (C_NoSide := C_NoSide) (C_NoNames := C_NoNames) F41 T hsys c__law_look x_NoNames k_Heap k_Parcel k_Sides, F41, PySem.W.mg_of X G a41, b41⟩
  have c__law_right : VS.Cf l.prog w K mg base (L2.CX l.prog w) 9 "_law_right" s__law_right [] a__law_right (p_right40 K C_Heap C_Parcel C_Sides) f42 _ := ⟨ok__law_right (C_Sides := C_Sides) (C_Parcel := C_Parcel) (C_Heap := C_Heap) (C_NoSide := C_NoSide) (C_NoNames := C_NoNames) F42 T hsys c__law_good c__law_asked c_Heap_names c_Sides___repr__ k_Heap k_Parcel k_Sides, F42, PySem.W.mg_of X G a42, b42⟩
  have c__law_told_right : VS.Cf l.prog w K mg base (L2.CX l.prog w) 8 "_law_told_right" s__law_told_right [] a__law_told_right (p_told40 C_Heap C_Parcel C_Sides) f43 _ := ⟨ok__law_told_right (C_Sides := C_Sides) (C_Parcel := C_Parcel) (C_Heap := C_Heap) (C_NoSide := C_NoSide) (C_NoNames := C_NoNames) F43 T hsys c_heights c_stack_fault c_stacked c_shows_stacked k_Heap k_Parcel k_Sides, F43, PySem.W.mg_of X G a43, b43⟩
  exact ok_law (C_Sides := C_Sides) (C_Parcel := C_Parcel) (C_Heap := C_Heap) (C_NoSide := C_NoSide) (C_NoNames := C_NoNames) F44 T hsys c__law_cell c__law_purse c__law_take c__law_pile c__law_heap c__law_shuffled c_Heap_names c__law_some c__law_told_right c__law_spoilt_names c__law_right c_Sides c_Heap_out c_Heap_put d_Heap_put2 k_Heap k_Parcel k_Sides
end LW
open PySem PySem.W PyProof.Rows in
set_option maxRecDepth 100000 in
set_option maxHeartbeats 0 in
theorem PySem.Challenge.cw_boxinbox_k40_stacks_refused_and_by_names_holds : PySem.Challenge.rw_boxinbox_k40_stacks_refused_and_by_names.Holds := by
  w_on; o_law; k_head; (case hw => w_witness2)
  k_fill
  refine VS.walk_val (l := PySem.Challenge.rw_boxinbox_k40_stacks_refused_and_by_names) (n := 63) (k := 10) (x := "_law_script") (CX := fun w => L2.CX (PySem.Challenge.rw_boxinbox_k40_stacks_refused_and_by_names).prog w) (p := fun _ => LW.p_law) rfl (by decide) rfl ⟨rfl, by decide, by decide⟩ (by first | rfl | decide +kernel) (fun w h Y => PySem.W.kIn_of Y) ?F (fun _ ns h => ⟨ns, rfl, h, fun _ => rfl⟩) (fun _ _ _ _ _ z => by obtain ⟨_, _, _, _, _, _, _, _, _, _, _, _, q⟩ := z; exact q)
  case F =>
    intro w mg fa h KX G hmg
    refine' LW.all_mk KX G hmg ?aKSides ?pgKSides ?hdKSides ?poKSides ?saKSides ?haKSides ?hmKSides ?icKSides ?tcKSides ?nKSides_three ?zKSides_int ?zKSides_bool ?zKSides_str ?zKSides_NoneType ?zKSides_list ?zKSides_tuple ?zKSides_dict ?mKSides_0 ?mKSides_1 ?aKParcel ?pgKParcel ?hdKParcel ?poKParcel ?saKParcel ?haKParcel ?hmKParcel ?icKParcel ?tcKParcel ?nKParcel_called ?nKParcel_outside ?nKParcel_thick ?nKParcel_heavy ?nKParcel_strong ?nKParcel_marks ?nKParcel_told ?nKParcel_names ?zKParcel_int ?zKParcel_bool ?zKParcel_str ?zKParcel_NoneType ?zKParcel_list ?zKParcel_tuple ?zKParcel_dict ?aKHeap ?pgKHeap ?hdKHeap ?poKHeap ?saKHeap ?haKHeap ?hmKHeap ?icKHeap ?tcKHeap ?nKHeap_held ?nKHeap_told ?nKHeap_kind ?hnO ?htkO ?aXNoSide ?xXNoSide ?saXNoSide ?gaXNoSide ?ggXNoSide ?noXNoSide ?exXNoSide ?tyXNoSide ?kcXNoSide ?hdXNoSide ?iXNoSide ?tXNoSide ?lXNoSide ?cXNoSide ?kXNoSide ?aXNoNames ?xXNoNames ?saXNoNames ?gaXNoNames ?ggXNoNames ?noXNoNames ?exXNoNames ?tyXNoNames ?kcXNoNames ?hdXNoNames ?iXNoNames ?tXNoNames ?lXNoNames ?cXNoNames ?kXNoNames ?a0 ?l0 ?c0 ?k0 ?a1 ?l1 ?c1 ?k1 ?a2 ?i2 ?l2 ?c2 ?k2 ?mk2 ?kc2 ?a3 ?i3 ?l3 ?c3 ?k3 ?a4 ?i4 ?l4 ?c4 ?k4 ?a5 ?l5 ?c5 ?k5 ?a6 ?i6 ?l6 ?c6 ?k6 ?t6 ?mk6 ?kc6 ?a7 ?i7 ?l7 ?c7 ?k7 ?a8 ?i8 ?l8 ?c8 ?k8 ?a9 ?i9 ?l9 ?c9 ?k9 ?a10 ?i10 ?l10 ?c10 ?k10 ?a11 ?i11 ?l11 ?c11 ?k11 ?a12 ?i12 ?l12 ?c12 ?k12 ?mk12 ?kc12 ?a13 ?i13 ?l13 ?c13 ?k13 ?a14 ?i14 ?l14 ?c14 ?k14 ?a15 ?i15 ?l15 ?c15 ?k15 ?t15 ?a16 ?i16 ?l16 ?c16 ?k16 ?a17 ?i17 ?l17 ?c17 ?k17 ?a18 ?l18 ?c18 ?k18 ?a19 ?l19 ?c19 ?k19 ?a20 ?l20 ?c20 ?k20 ?a21 ?l21 ?c21 ?k21 ?a22 ?l22 ?c22 ?k22 ?a23 ?l23 ?c23 ?k23 ?a24 ?l24 ?c24 ?k24 ?a25 ?l25 ?c25 ?k25 ?a26 ?l26 ?c26 ?k26 ?a27 ?l27 ?c27 ?k27 ?a28 ?l28 ?c28 ?k28 ?a29 ?l29 ?c29 ?k29 ?a30 ?l30 ?c30 ?k30 ?a31 ?l31 ?c31 ?k31 ?a32 ?l32 ?c32 ?k32 ?a33 ?l33 ?c33 ?k33 ?a34 ?l34 ?c34 ?k34 ?a35 ?l35 ?c35 ?k35 ?a36 ?l36 ?c36 ?k36 ?a37 ?l37 ?c37 ?k37 ?a38 ?l38 ?c38 ?k38 ?a39 ?l39 ?c39 ?k39 ?a40 ?l40 ?c40 ?k40 ?a41 ?l41 ?c41 ?k41 ?a42 ?l42 ?c42 ?k42 ?a43 ?l43 ?c43 ?k43 ?a44 ?l44 ?c44 ?k44 ?z_all ?z_bool ?z_enumerate ?z_int ?z_isinstance ?z_len ?z_list ?z_max ?z_min ?z_range ?z_repr ?z_set ?z_sorted ?z_str ?z_sum ?z_tuple ?z_LETTERS ?z_MOST_PARCELS ?z_MOST_SIDE ?z_MOST_WALL ?z_MOST_WEIGHT ?icNoNames ?sbNoNames_NoNames ?zDSHOWN ?kDSHOWN ?sDSHOWN ?z_ORDERS ?kO ?kt0_ ?kt1_ ?kt2_ ?kt3_ ?kt4_ ?kt5_ ?z_LABELS ?kL_
    (case aKSides => k_is)
    (case aKParcel => k_is)
    (case aKHeap => k_is)
    (case pgKSides => k_is)
    (case hdKSides => k_is)
    (case poKSides => k_is)
    (case saKSides => k_is)
    (case haKSides => k_is)
    (case hmKSides => k_is)
    (case icKSides => k_is)
    (case tcKSides => k_is)
    (case nKSides_three => k_is)
    (case zKSides_int => k_is)
    (case zKSides_bool => k_is)
    (case zKSides_str => k_is)
    (case zKSides_NoneType => k_is)
    (case zKSides_list => k_is)
    (case zKSides_tuple => k_is)
    (case zKSides_dict => k_is)
    (case mKSides_0 => k_is)
    (case mKSides_1 => k_is)
    (case pgKParcel => k_is)
    (case hdKParcel => k_is)
    (case poKParcel => k_is)
    (case saKParcel => k_is)
    (case haKParcel => k_is)
    (case hmKParcel => k_is)
    (case icKParcel => k_is)
    (case tcKParcel => k_is)
    (case nKParcel_called => k_is)
    (case nKParcel_outside => k_is)
    (case nKParcel_thick => k_is)
    (case nKParcel_heavy => k_is)
    (case nKParcel_strong => k_is)
    (case nKParcel_marks => k_is)
    (case nKParcel_told => k_is)
    (case nKParcel_names => k_is)
    (case zKParcel_int => k_is)
    (case zKParcel_bool => k_is)
    (case zKParcel_str => k_is)
    (case zKParcel_NoneType => k_is)
    (case zKParcel_list => k_is)
    (case zKParcel_tuple => k_is)
    (case zKParcel_dict => k_is)
    (case pgKHeap => k_is)
    (case hdKHeap => k_is)
    (case poKHeap => k_is)
    (case saKHeap => k_is)
    (case haKHeap => k_is)
    (case hmKHeap => k_is)
    (case icKHeap => k_is)
    (case tcKHeap => k_is)
    (case nKHeap_held => k_is)
    (case nKHeap_told => k_is)
    (case nKHeap_kind => k_is)
    (case hnO => k_is)
    (case htkO => k_is)
    (case aXNoSide => k_is)
    (case xXNoSide => k_is)
    (case saXNoSide => k_is)
    (case gaXNoSide => k_is)
    (case ggXNoSide => k_is)
    (case noXNoSide => k_is)
    (case exXNoSide => k_is)
    (case tyXNoSide => k_is)
    (case kcXNoSide => k_is)
    (case hdXNoSide => k_is)
    (case iXNoSide => k_is)
    (case tXNoSide => k_is)
    (case lXNoSide => k_is)
    (case cXNoSide => k_is)
    (case kXNoSide => k_is)
    (case aXNoNames => k_is)
    (case xXNoNames => k_is)
    (case saXNoNames => k_is)
    (case gaXNoNames => k_is)
    (case ggXNoNames => k_is)
    (case noXNoNames => k_is)
    (case exXNoNames => k_is)
    (case tyXNoNames => k_is)
    (case kcXNoNames => k_is)
    (case hdXNoNames => k_is)
    (case iXNoNames => k_is)
    (case tXNoNames => k_is)
    (case lXNoNames => k_is)
    (case cXNoNames => k_is)
    (case kXNoNames => k_is)
    (case a0 => k_is)
    (case l0 => k_is)
    (case c0 => k_is)
    (case k0 => k_is)
    (case a1 => k_is)
    (case l1 => k_is)
    (case c1 => k_is)
    (case k1 => k_is)
    (case a2 => k_is)
    (case i2 => k_is)
    (case l2 => k_is)
    (case c2 => k_is)
    (case k2 => k_is)
    (case mk2 => k_is)
    (case kc2 => k_is)
    (case a3 => k_is)
    (case i3 => k_is)
    (case l3 => k_is)
    (case c3 => k_is)
    (case k3 => k_is)
    (case a4 => k_is)
    (case i4 => k_is)
    (case l4 => k_is)
    (case c4 => k_is)
    (case k4 => k_is)
    (case a5 => k_is)
    (case l5 => k_is)
    (case c5 => k_is)
    (case k5 => k_is)
    (case a6 => k_is)
    (case i6 => k_is)
    (case l6 => k_is)
    (case c6 => k_is)
    (case k6 => k_is)
    (case t6 => k_is)
    (case mk6 => k_is)
    (case kc6 => k_is)
    (case a7 => k_is)
    (case i7 => k_is)
    (case l7 => k_is)
    (case c7 => k_is)
    (case k7 => k_is)
    (case a8 => k_is)
    (case i8 => k_is)
    (case l8 => k_is)
    (case c8 => k_is)
    (case k8 => k_is)
    (case a9 => k_is)
    (case i9 => k_is)
    (case l9 => k_is)
    (case c9 => k_is)
    (case k9 => k_is)
    (case a10 => k_is)
    (case i10 => k_is)
    (case l10 => k_is)
    (case c10 => k_is)
    (case k10 => k_is)
    (case a11 => k_is)
    (case i11 => k_is)
    (case l11 => k_is)
    (case c11 => k_is)
    (case k11 => k_is)
    (case a12 => k_is)
    (case i12 => k_is)
    (case l12 => k_is)
    (case c12 => k_is)
    (case k12 => k_is)
    (case mk12 => k_is)
    (case kc12 => k_is)
    (case a13 => k_is)
    (case i13 => k_is)
    (case l13 => k_is)
    (case c13 => k_is)
    (case k13 => k_is)
    (case a14 => k_is)
    (case i14 => k_is)
    (case l14 => k_is)
    (case c14 => k_is)
    (case k14 => k_is)
    (case a15 => k_is)
    (case i15 => k_is)
    (case l15 => k_is)
    (case c15 => k_is)
    (case k15 => k_is)
    (case t15 => k_is)
    (case a16 => k_is)
    (case i16 => k_is)
    (case l16 => k_is)
    (case c16 => k_is)
    (case k16 => k_is)
    (case a17 => k_is)
    (case i17 => k_is)
    (case l17 => k_is)
    (case c17 => k_is)
    (case k17 => k_is)
    (case a18 => k_is)
    (case l18 => k_is)
    (case c18 => k_is)
    (case k18 => k_is)
    (case a19 => k_is)
    (case l19 => k_is)
    (case c19 => k_is)
    (case k19 => k_is)
    (case a20 => k_is)
    (case l20 => k_is)
    (case c20 => k_is)
    (case k20 => k_is)
    (case a21 => k_is)
    (case l21 => k_is)
    (case c21 => k_is)
    (case k21 => k_is)
    (case a22 => k_is)
    (case l22 => k_is)
    (case c22 => k_is)
    (case k22 => k_is)
    (case a23 => k_is)
    (case l23 => k_is)
    (case c23 => k_is)
    (case k23 => k_is)
    (case a24 => k_is)
    (case l24 => k_is)
    (case c24 => k_is)
    (case k24 => k_is)
    (case a25 => k_is)
    (case l25 => k_is)
    (case c25 => k_is)
    (case k25 => k_is)
    (case a26 => k_is)
    (case l26 => k_is)
    (case c26 => k_is)
    (case k26 => k_is)
    (case a27 => k_is)
    (case l27 => k_is)
    (case c27 => k_is)
    (case k27 => k_is)
    (case a28 => k_is)
    (case l28 => k_is)
    (case c28 => k_is)
    (case k28 => k_is)
    (case a29 => k_is)
    (case l29 => k_is)
    (case c29 => k_is)
    (case k29 => k_is)
    (case a30 => k_is)
    (case l30 => k_is)
    (case c30 => k_is)
    (case k30 => k_is)
    (case a31 => k_is)
    (case l31 => k_is)
    (case c31 => k_is)
    (case k31 => k_is)
    (case a32 => k_is)
    (case l32 => k_is)
    (case c32 => k_is)
    (case k32 => k_is)
    (case a33 => k_is)
    (case l33 => k_is)
    (case c33 => k_is)
    (case k33 => k_is)
    (case a34 => k_is)
    (case l34 => k_is)
    (case c34 => k_is)
    (case k34 => k_is)
    (case a35 => k_is)
    (case l35 => k_is)
    (case c35 => k_is)
    (case k35 => k_is)
    (case a36 => k_is)
    (case l36 => k_is)
    (case c36 => k_is)
    (case k36 => k_is)
    (case a37 => k_is)
    (case l37 => k_is)
    (case c37 => k_is)
    (case k37 => k_is)
    (case a38 => k_is)
    (case l38 => k_is)
    (case c38 => k_is)
    (case k38 => k_is)
    (case a39 => k_is)
    (case l39 => k_is)
    (case c39 => k_is)
    (case k39 => k_is)
    (case a40 => k_is)
    (case l40 => k_is)
    (case c40 => k_is)
    (case k40 => k_is)
    (case a41 => k_is)
    (case l41 => k_is)
    (case c41 => k_is)
    (case k41 => k_is)
    (case a42 => k_is)
    (case l42 => k_is)
    (case c42 => k_is)
    (case k42 => k_is)
    (case a43 => k_is)
    (case l43 => k_is)
    (case c43 => k_is)
    (case k43 => k_is)
    (case a44 => k_is)
    (case l44 => k_is)
    (case c44 => k_is)
    (case k44 => k_is)
    (case z_all => k_is)
    (case z_bool => k_is)
    (case z_enumerate => k_is)
    (case z_int => k_is)
    (case z_isinstance => k_is)
    (case z_len => k_is)
    (case z_list => k_is)
    (case z_max => k_is)
    (case z_min => k_is)
    (case z_range => k_is)
    (case z_repr => k_is)
    (case z_set => k_is)
    (case z_sorted => k_is)
    (case z_str => k_is)
    (case z_sum => k_is)
    (case z_tuple => k_is)
    (case z_LETTERS => k_is)
    (case z_MOST_PARCELS => k_is)
    (case z_MOST_SIDE => k_is)
    (case z_MOST_WALL => k_is)
    (case z_MOST_WEIGHT => k_is)
    (case icNoNames => k_is)
    (case sbNoNames_NoNames => k_is)
    (case zDSHOWN => k_is)
    (case kDSHOWN => k_is)
    (case sDSHOWN => first | decide | rfl)
    (case z_ORDERS => k_is)
    (case kO => k_is)
    (case kt0_ => k_is)
    (case kt1_ => k_is)
    (case kt2_ => k_is)
    (case kt3_ => k_is)
    (case kt4_ => k_is)
    (case kt5_ => k_is)
    (case z_LABELS => k_is)
    (case kL_ => k_is)
